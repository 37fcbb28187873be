import PyProof.Rows.All
import Wide.All
import OpenK.AllK
import Wide.FinOn
import PySem.Challenge.RW_np0196_01
open PySem PySem.W PyProof.Rows
set_option Elab.async false
set_option maxRecDepth 100000
set_option maxHeartbeats 4000000
set_option compiler.extract_closed false
set_option linter.unusedVariables false
set_option linter.unusedSimpArgs false
set_option linter.defProp false
namespace Internal
noncomputable section
open PySem PySem.Spec PySem.Calls PySem.W PyProof.Rows
section
local macro_rules | `(tactic| o_head $_)=>`(tactic| assumption)
theorem kx(h:PySem.Challenge.rw_np0196_01.row.Holds):PySem.Challenge.rw_np0196_01.row.Holds:=by k_head
end
set_option tactic.hygienic false
set_option genSizeOf false
set_option genInjectivity false
def lCq:=@List.casesOn.{0,0}
def nCq:=@Nat.casesAuxOn.{0}
def eCq:=@Expr.casesOn.{0}
def tCq:=@Stmt.casesOn.{0}
section
section
universe u v x y z
variable {α:Sort u} {β:Sort v} {γ:Sort x} {δ:Sort y} {ε:Sort z} {G:Prop}
section
variable {p q r s t m:Prop}
def x02(h:p/\q)(k:p->q->G):=k h.1 h.2
def x03(h:p/\q/\r)(k:p->q->r->G):=k h.1 h.2.1 h.2.2
def x04(h:p/\q/\r/\s)(k:p->q->r->s->G):=k h.1 h.2.1 h.2.2.1 h.2.2.2
def x05(h:p/\q/\r/\s/\t)(k:p->q->r->s->t->G):=k h.1 h.2.1 h.2.2.1 h.2.2.2.1 h.2.2.2.2
def x06(h:p/\q/\r/\s/\t/\m)(k:p->q->r->s->t->m->G):=k h.1 h.2.1 h.2.2.1 h.2.2.2.1 h.2.2.2.2.1 h.2.2.2.2.2
end
section
variable {p q r s t:α->Prop}
def x11(h:∃ a,p a)(k:∀ a,p a->G):=h.elim λa h=>k a h
def x12(h:∃ a,p a/\q a)(k:∀ a,p a->q a->G):=h.elim λa h=>k a h.1 h.2
def x13(h:∃ a,p a/\q a/\r a)(k:∀ a,p a->q a->r a->G):=h.elim λa h=>k a h.1 h.2.1 h.2.2
def x14(h:∃ a,p a/\q a/\r a/\s a)(k:∀ a,p a->q a->r a->s a->G):=h.elim λa h=>k a h.1 h.2.1 h.2.2.1 h.2.2.2
def x15(h:∃ a,p a/\q a/\r a/\s a/\t a)(k:∀ a,p a->q a->r a->s a->t a->G):=h.elim λa h=>k a h.1 h.2.1 h.2.2.1 h.2.2.2.1 h.2.2.2.2
end
section
variable {p q r s:α->β->Prop}
def x21(h:∃ a b,p a b)(k:∀ a b,p a b->G):=h.elim λa h=>h.elim λb h=>k a b h
def x22(h:∃ a b,p a b/\q a b)(k:∀ a b,p a b->q a b->G):=h.elim λa h=>h.elim λb h=>k a b h.1 h.2
def x23(h:∃ a b,p a b/\q a b/\r a b)(k:∀ a b,p a b->q a b->r a b->G):=h.elim λa h=>h.elim λb h=>k a b h.1 h.2.1 h.2.2
def x24(h:∃ a b,p a b/\q a b/\r a b/\s a b)(k:∀ a b,p a b->q a b->r a b->s a b->G):=h.elim λa h=>h.elim λb h=>k a b h.1 h.2.1 h.2.2.1 h.2.2.2
end
section
variable {p q r:α->β->γ->Prop}
def x31(h:∃ a b c,p a b c)(k:∀ a b c,p a b c->G):=h.elim λa h=>h.elim λb h=>h.elim λc h=>k a b c h
def x32(h:∃ a b c,p a b c/\q a b c)(k:∀ a b c,p a b c->q a b c->G):=h.elim λa h=>h.elim λb h=>h.elim λc h=>k a b c h.1 h.2
def x33(h:∃ a b c,p a b c/\q a b c/\r a b c)(k:∀ a b c,p a b c->q a b c->r a b c->G):=h.elim λa h=>h.elim λb h=>h.elim λc h=>k a b c h.1 h.2.1 h.2.2
end
section
variable {p q:α->β->γ->δ->Prop}
def x41(h:∃ a b c d,p a b c d)(k:∀ a b c d,p a b c d->G):=h.elim λa h=>h.elim λb h=>h.elim λc h=>h.elim λd h=>k a b c d h
def x42(h:∃ a b c d,p a b c d/\q a b c d)(k:∀ a b c d,p a b c d->q a b c d->G):=h.elim λa h=>h.elim λb h=>h.elim λc h=>h.elim λd h=>k a b c d h.1 h.2
end
section
variable {p:α->β->γ->δ->ε->Prop}
def x51(h:∃ a b c d e,p a b c d e)(k:∀ a b c d e,p a b c d e->G):=h.elim λa h=>h.elim λb h=>h.elim λc h=>h.elim λd h=>h.elim λe h=>k a b c d e h
end
end
section
universe u
@[elab_as_elim] theorem letIn {α:Type} {m:α->Prop} (a:α) (h:let x:=a;m x):m a:=h
@[elab_as_elim] theorem genI {α:Sort u} {m:α->Prop} (a:α) (h:∀ x,m x):m a:=h a
@[elab_as_elim] theorem genE {α:Sort u} {m:α->Prop} (a:α) (h:∀ x,a=x->m x):m a:=h a rfl
@[elab_as_elim] theorem rwG {α:Sort u} {a b:α} {m:α->Prop} (e:a=b) (h:m b):m a:=e.symm.rec h
@[elab_as_elim] theorem rwH {α:Sort u} {b a:α} {m:α->Prop} (e:b=a) (h:m b):m a:=e.rec h
end
end
open Lean in
set_option compiler.extract_closed false in
local macro_rules
  | `(tactic| obtain $p:rcasesPatMed := $t:term) => do
    let as := p.raw[0].getArgs
    if as.size < 3 then Macro.throwUnsupported
    let f : TSyntax `term := ⟨as[0]![0]⟩
    let i : TSyntax `tactic := ⟨mkNode `Lean.Parser.Tactic.intro #[mkAtom "intro", mkNullNode (as.foldl (λl x => if x.isAtom then l else l.push x[0]) #[] 1)]⟩
    `(tactic| (refine $f $t ?_; (try clear $t:term); $i; repeat subst rfl))
open Lean in
set_option compiler.extract_closed false in
local macro_rules
  | `(tactic| rw [$rs,*]) => do
    let mut ts : Array (TSyntax `tactic) := #[]
    for r in rs.getElems do
      let e : TSyntax `term := ⟨r.raw[1]⟩
      let f : TSyntax `term := if r.raw[0].getNumArgs == 0 then mkIdent `Internal.rwG else mkIdent `Internal.rwH
      ts := ts.push (← `(tactic| first | refine $f $e ?_ | rewrite [$r]))
    ts := ts.push (← `(tactic| try (with_reducible rfl)))
    `(tactic| ($[$ts:tactic];*))
def aA := @wpAny_bind
def aE := @Nat.le_trans
def aF := @decide_eq_true
def aG := @wpAny_pure
def aH := @List.mem_singleton
def aJ := @if_neg
def aL := @List.mem_map
def aM := @Heap.get?_push_of_some
def aN := @if_pos
def aO := @List.length_map
def aP := @List.map_map
def aQ := @List.getElem?_eq_some_iff
def aS := @absurd
def aT := @Nat.lt_of_lt_of_le
def aU := @congrArg
def aV := @Nat.ne_of_gt
def aW := @Bool.false_ne_true
def aX := @of_decide_eq_true
def aY := @Nat.le_refl
def aZ := @List.mem_cons
def bA := @List.length_append
def bB := @Nat.lt_trans
def bC := @Heap.get?_push_size
def bD := @Int.le_trans
def bE := @decide_eq_false
def bF := @Nat.lt_of_le_of_lt
def bG := @Nat.ne_of_lt
def bH := @Option.map_eq_some_iff
def bI := @List.mem_map_of_mem
def bJ := @List.map_cons
def bK := @List.getElem?_eq_getElem
def bM := @Nat.le_add_right
def bN := @List.nodup_cons
def bO := @List.mem_append_right
def bP := @Nat.succ_le_succ
def bQ := @List.lookup_cons
def bR := @List.mem_append
def bS := @List.getElem?_map
def bT := @wpAny_holding
def bU := @List.size_toArray
def bV := @Nat.le_of_eq
def bW := @Nat.lt_succ_of_lt
def bX := @Option.bind_eq_some_iff
def bY := @Bool.and_eq_true
def bZ := @List.map_congr_left
def cA := @List.mem_append_left
def cB := @Nat.not_lt
def cC := @Nat.le_of_lt
def cD := @Int.lt_of_le_of_lt
def cE := @Nat.le_succ
def cH := @Nat.le_add_left
def cJ := @List.map_append
def cK := @Nat.succ_ne_self
def cL := @Heap.get?_update_self
def cM := @Nat.le_succ_of_le
def cN := @List.mem_filter
def cO := @Int.ofNat_le
def cP := @Heap.lt_size
def cQ := @Nat.add_le_add_right
def cR := @List.not_mem_nil
def cS := @Int.natCast_nonneg
def cT := @List.mem_of_getElem?
def cU := @List.mem_cons_of_mem
def cV := @Nat.add_right_comm
def cW := @Nat.zero_add
def cX := @List.getElem?_append_right
def cY := @Nat.add_le_add_left
def cZ := @Nat.mul_le_mul_left
def dA := @Nat.zero_le
def dB := @List.cons_ne_nil
def dC := @List.getElem?_append_left
def dD := @Int.add_assoc
def dE := @List.pairwise_cons
def dF := @List.contains_cons
def dG := @Int.not_lt
def dH := @List.filter_cons
def dI := @Nat.le_of_lt_succ
def dJ := @List.nodup_append
def dK := @List.getD_eq_getElem?_getD
def dL := @Nat.lt_of_le_of_ne
def dM := @Nat.add_le_add
def dN := @List.getElem?_eq_none_iff
def dO := @Nat.lt_irrefl
def dP := @wpAny_standAt
def dQ := @wpAny_call_entry
def dR := @Nat.lt_succ_self
def dS := @List.filterMap_cons
def dT := @List.filter_eq_self
def dU := @List.length_filter_le
def dV := @List.getElem?_eq_none
def dW := @wpAny_specialOf
def dX := @Int.add_le_add_right
def dY := @Nat.not_succ_le_zero
def dZ := @Int.add_zero
def eB := @List.all_eq_true
def eE := @List.take_of_length_le
def eF := @wpAny_loadPart_at
def eG := @Int.ofNat_lt
def eH := @Int.sub_eq_iff_eq_add
def eI := @Option.isSome_iff_exists
def eJ := @Int.mul_le_mul_of_nonneg_left
def eK := @Int.le_refl
def eM := @Nat.le_of_not_lt
def eN := @wpAny_of_eq
def eO := @Int.max_eq_right
def eP := @Nat.lt_add_of_pos_right
def eQ := @Nat.add_sub_cancel_left
def eS := @Int.le_of_lt
def eT := @List.append_assoc
def eU := @Nat.le_of_succ_le
def eV := @Nat.le_antisymm
def eW := @List.append_nil
def eX := @List.getElem?_range
def eY := @Nat.le_of_succ_le_succ
def eZ := @Heap.get?_update_other
def fA := @Array.getElem?_eq_some_iff
def fB := @Int.lt_trans
def fC := @Heap.get?_some_iff
def fD := @List.findIdx?_eq_some_iff_getElem
def fE := @Int.emod_lt_of_pos
def fF := @List.getElem?_set_ne
def fG := @wpAny_mono
def fH := @Nat.not_lt_zero
def fJ := @List.forIn_cons
def fK := @Nat.add_comm
def fL := @Nat.add_assoc
def fM := @List.cons_append
def fN := @List.length_cons
def fO := @List.getElem?_set_self
def fP := @Nat.lt_of_succ_lt_succ
def fQ := @Int.add_sub_cancel
def fR := @List.zip_cons_cons
def fS := @Int.lt_succ
def fT := @List.find?_cons
def fU := @Array.getElem?_toList
def fV := @List.find?_some
def fW := @Int.zero_add
def fX := @Int.emod_nonneg
def fY := @Bool.eq_false_iff
def fZ := @wpAny_newObj_type
def gA := @List.sum_cons
def gB := @Nat.le_sub_one_of_lt
def gC := @Nat.not_succ_le_self
def gD := @List.findIdx?_eq_none_iff
def gF := @List.mem_of_find?_eq_some
def gG := @List.drop_eq_getElem_cons
def gH := @List.nodup_nil
def gI := @List.any_eq_true
def gJ := @List.take_length
def gK := @Heap.get?_update_ne
def gM := @wpAny_field
def gN := @Array.toList_append
def gO := @wpAny_isSubtype_exc
def gP := @Nat.sub_le
def gQ := @Int.sub_add_cancel
def gR := @List.length_set
def gS := @List.all_cons
def gT := @List.find?_eq_none
def gU := @Int.min_eq_left
def gV := @wpAny_newList
def gW := @Nat.min_le_left
def gX := @Nat.lt_of_lt_of_eq
def gY := @List.filter_append
def gZ := @Heap.size_push
def hM := @List.drop_zero
def hU := @Int.ne_of_gt
def hV := @Bool.or_true
section
section
universe u v x y z
variable {α:Sort u} {β:Sort v} {γ:Sort x} {δ:Sort y} {ε:Sort z}
section
variable {p q r s t m n:Prop} (h:p) (i:q) (j:r) (k:s) (l:t) (o:m) (w:n)
def i03:=(⟨h,i,j⟩:p/\q/\r)
def i04:=(⟨h,i,j,k⟩:p/\q/\r/\s)
def i05:=(⟨h,i,j,k,l⟩:p/\q/\r/\s/\t)
def i06:=(⟨h,i,j,k,l,o⟩:p/\q/\r/\s/\t/\m)
def i07:=(⟨h,i,j,k,l,o,w⟩:p/\q/\r/\s/\t/\m/\n)
end
section
variable {p q r s t m:α->Prop} (a:α) (h:p a) (i:q a) (j:r a) (k:s a) (l:t a) (o:m a)
def i12:=(⟨a,h,i⟩:∃ a,p a/\q a)
def i13:=(⟨a,h,i,j⟩:∃ a,p a/\q a/\r a)
def i14:=(⟨a,h,i,j,k⟩:∃ a,p a/\q a/\r a/\s a)
def i15:=(⟨a,h,i,j,k,l⟩:∃ a,p a/\q a/\r a/\s a/\t a)
def i16:=(⟨a,h,i,j,k,l,o⟩:∃ a,p a/\q a/\r a/\s a/\t a/\m a)
end
section
variable {p q r s t m:α->β->Prop} (a:α) (b:β) (h:p a b) (i:q a b) (j:r a b) (k:s a b) (l:t a b) (o:m a b)
def i21:=(⟨a,b,h⟩:∃ a,∃ b,p a b)
def i22:=(⟨a,b,h,i⟩:∃ a,∃ b,p a b/\q a b)
def i23:=(⟨a,b,h,i,j⟩:∃ a,∃ b,p a b/\q a b/\r a b)
def i24:=(⟨a,b,h,i,j,k⟩:∃ a,∃ b,p a b/\q a b/\r a b/\s a b)
def i25:=(⟨a,b,h,i,j,k,l⟩:∃ a,∃ b,p a b/\q a b/\r a b/\s a b/\t a b)
def i26:=(⟨a,b,h,i,j,k,l,o⟩:∃ a,∃ b,p a b/\q a b/\r a b/\s a b/\t a b/\m a b)
end
section
variable {p q r s t m n:α->β->γ->Prop} (a:α) (b:β) (c:γ) (h:p a b c) (i:q a b c) (j:r a b c) (k:s a b c) (l:t a b c) (o:m a b c) (w:n a b c)
def i31:=(⟨a,b,c,h⟩:∃ a,∃ b,∃ c,p a b c)
def i32:=(⟨a,b,c,h,i⟩:∃ a,∃ b,∃ c,p a b c/\q a b c)
def i33:=(⟨a,b,c,h,i,j⟩:∃ a,∃ b,∃ c,p a b c/\q a b c/\r a b c)
def i34:=(⟨a,b,c,h,i,j,k⟩:∃ a,∃ b,∃ c,p a b c/\q a b c/\r a b c/\s a b c)
def i35:=(⟨a,b,c,h,i,j,k,l⟩:∃ a,∃ b,∃ c,p a b c/\q a b c/\r a b c/\s a b c/\t a b c)
def i37:=(⟨a,b,c,h,i,j,k,l,o,w⟩:∃ a,∃ b,∃ c,p a b c/\q a b c/\r a b c/\s a b c/\t a b c/\m a b c/\n a b c)
end
section
variable {p q r s t m:α->β->γ->δ->Prop} (a:α) (b:β) (c:γ) (d:δ) (h:p a b c d) (i:q a b c d) (j:r a b c d) (k:s a b c d) (l:t a b c d) (o:m a b c d)
def i43:=(⟨a,b,c,d,h,i,j⟩:∃ a,∃ b,∃ c,∃ d,p a b c d/\q a b c d/\r a b c d)
def i44:=(⟨a,b,c,d,h,i,j,k⟩:∃ a,∃ b,∃ c,∃ d,p a b c d/\q a b c d/\r a b c d/\s a b c d)
def i46:=(⟨a,b,c,d,h,i,j,k,l,o⟩:∃ a,∃ b,∃ c,∃ d,p a b c d/\q a b c d/\r a b c d/\s a b c d/\t a b c d/\m a b c d)
end
section
variable {p q r s:α->β->γ->δ->ε->Prop} (a:α) (b:β) (c:γ) (d:δ) (e:ε) (h:p a b c d e) (i:q a b c d e) (j:r a b c d e) (k:s a b c d e)
def i51:=(⟨a,b,c,d,e,h⟩:∃ a,∃ b,∃ c,∃ d,∃ e,p a b c d e)
def i52:=(⟨a,b,c,d,e,h,i⟩:∃ a,∃ b,∃ c,∃ d,∃ e,p a b c d e/\q a b c d e)
def i54:=(⟨a,b,c,d,e,h,i,j,k⟩:∃ a,∃ b,∃ c,∃ d,∃ e,p a b c d e/\q a b c d e/\r a b c d e/\s a b c d e)
end
end
end
theorem p1{a l:Int}(h:a<=l):a<=l+1:=eS (Int.lt_add_one_of_le h)
theorem up3{a l:Int}(h:a<=l):a<=l+1+1+1:=p1 (p1 (p1 h))
theorem s3{b l:Int}(h:l+3<=b):l+1+1+1<=b:=by rw [dD,dD];exact h
theorem m3{l:Int}(h:l % 3=1):(l+1+1+1) % 3=1:=by rw [dD,dD];exact (Int.add_emod_right ..).trans h
theorem ln1{a b:Nat}{l:Int}(h:a<=b+1)(k:(b:Int)<=l):(a:Int)<=l+1+1+1:=bD (cO.mpr h) (p1 (p1 (dX k 1)))
theorem ln2{a b c:Nat}{l:Int}(h:a<=b+1)(g:b<=c+1)(k:(c:Int)<=l):(a:Int)<=l+1+1+1:=bD (cO.mpr (aE h (bP g))) (p1 (dX (dX k 1) 1))
theorem nz{l p k x:Int}(h:p<=l)(hk:0<=k)(hx:l < x):x≠p - k:=λe=>aS (e▸bD (Int.sub_le_self p hk) h) (Int.not_le.mpr hx)
theorem lS{l x:Int}(h:l < x):l < x+1:=fB h (fS x)
theorem nzA{l p:Int}(h:p<=l):l+1≠p - 2:=nz h (by decide) (fS l)
theorem nzB{l p:Int}(h:p<=l):l+1+1≠p - 2:=nz h (by decide) (lS (fS l))
theorem nzC{l p:Int}(h:p<=l):l+1≠p - 1:=nz h (by decide) (fS l)
theorem nzD{l p:Int}(h:p<=l):l+1+1≠p - 1:=nz h (by decide) (lS (fS l))
theorem lt3{l p:Int}(h:p<=l):l+1+1+1≠p:=λe=>aS (lS (lS (fS l))) (dG.mpr (e▸h))
theorem nzE{l:Int}(h:4<=l):l+1≠1:=λe=>aS (cD h (e▸fS l)) (by decide)
theorem nzF{l:Int}(h:4<=l):l+1+1≠1:=λe=>aS (cD h (e▸lS (fS l))) (by decide)
theorem nzG{l p:Int}(h:l % 3=1)(k:p % 3=1):l+1≠p:=λe=>by rw [<-e,Int.add_emod,h] at k;exact aS k (by decide)
theorem nzH{l p:Int}(h:l % 3=1)(k:p % 3=1):l+1+1≠p:=λe=>by rw [<-e,dD,Int.add_emod,h] at k;exact aS k (by decide)
theorem pR{par hY:Int}(hp:0<=par/\par < 256 ^ 8)(h0:0<=hY)(h1:hY < 100000):∀ x∈ [par,0,hY+1,hY+1+1,0,0,0,0,0,0],0<=x/\x < 256 ^ 8:=by
 have z:(0:Int)<=0/\(0:Int) < 256 ^ 8:=by decide
 have t:∀ {a:Int},a < 100002->a < 256 ^ 8:=λh=>fB h (by decide);have c {a:Int} {l:List Int} (h:0<=a/\a < 256 ^ 8) (k:∀ x∈l,0<=x/\x < 256 ^ 8):∀ x∈a::l,0<=x/\x < 256 ^ 8:=List.forall_mem_cons.mpr ⟨h,k⟩;have h2:hY+1 < 100001:=Int.add_lt_add_right h1 1;exact c hp (c z (c ⟨p1 h0,t (lS h2)⟩ (c ⟨p1 (p1 h0),t (Int.add_lt_add_right h2 1)⟩ (c z (c z (c z (c z (c z (c z λ_ h=>aS h cR)))))))))
theorem n1{a n:Nat}(h:a < n):a - 1 < n:=bF (gP ..) h
theorem n2{a:Nat}(h:1<=a):a - 1 < a:=Nat.sub_lt h Nat.one_pos
theorem n3{a j:Nat}(h:j < a+1)(e:j≠a):j < a:=dL (dI h) e
theorem n4{i j:Nat}(h:i < j)(e:i≠j - 1):i < j - 1:=dL (gB h) e
theorem n5{a f n:Nat}(h:a+(f+1)<=n):a+1+f<=n:=cV a f 1▸h
theorem n6{a f n:Nat}(h:a+(f+1)<=n):a < n:=aT (eP (Nat.succ_pos f)) h
theorem n7{a f m:Nat}(h:m<=a+1+f):m<=a+(f+1):=(cV a f 1).symm▸h
theorem n8{a f m:Nat}(h:m < a+(f+1)):m < a+1+f:=cV a f 1▸h
theorem n9{i j m:Nat}(h:i < j)(k:j < m):m - 1 - j < m - 1 - i:=Nat.sub_lt_sub_left (aT h (gB k)) h
theorem n10{m i:Nat}(h:1<=m):m - 1 - i < m:=bF (gP ..) (n2 h)
theorem n11{m n:Nat}(h:m<=n):m+(n - m)<=n:=bV (Nat.add_sub_cancel' h)
theorem n12{l m r f:Nat}(g:l<=m)(h:r - l<=f+1)(k:m < r):m - l<=f:=dI (aT (Nat.sub_lt_sub_right g k) h)
theorem n13{l m r f:Nat}(g:l<=m)(h:r - l<=f+1):r - (m+1)<=f:=Nat.sub_le_iff_le_add.mpr (aE (Nat.sub_le_iff_le_add.mp h) (by rw [fL f 1 l,fK 1 l];exact cY (bP g) f))
theorem n15{j k:Nat}(h:j < k+1)(h1:1<=k):j - 1 < k:=bF (Nat.sub_le_sub_right (dI h) 1) (n2 h1)
theorem mc{α:Type}{p:α->Prop}{a:α}{l:List α}(h:p a)(k:∀ x∈l,p x):∀ x∈a::l,p x:=List.forall_mem_cons.mpr ⟨h,k⟩
theorem mn{α:Type}{p:α->Prop}:∀ x∈([]:List α),p x:=λ_ h=>aS h cR
theorem nsg{a b:Nat}(h:a < b):a∉ [b]:=λe=>bG h (aH.mp e)
theorem ne3{i:Nat}(h:3 < i):i≠1/\i≠2/\i≠3:=⟨aV (bB (by decide) h),aV (bB (by decide) h),aV h⟩
theorem d3{i k:Nat}(h:i < 12)(hk:k < 3):0<=3*(i:Int)+(k:Int)/\3*(i:Int)+(k:Int) < 2 ^ 62:=⟨cS (3*i+k),Int.lt_of_lt_of_le (b:=36) (eG.mpr (aT (Nat.add_lt_add_left hk (3*i)) (cZ 3 h))) (by decide)⟩
theorem len3{a t t':Nat}{l:Int}(h:a<=t+1/\l<=4+3*(t:Int)/\4<=l)(k:t<=t'):a<=t'+1/\l<=4+3*(t':Int)/\4<=l:=⟨aE h.1 (bP k),bD h.2.1 (Int.add_le_add_left (eJ (cO.mpr k) (by decide)) 4),h.2.2⟩
theorem len4{a t:Nat}{l:Int}(h:a<=t+1/\l<=4+3*(t:Int)/\4<=l):a+1<=t+1+1/\l+1+1+1<=4+3*((t+1:Nat):Int)/\4<=l+1+1+1:=⟨bP h.1,bD (dX (dX (dX h.2.1 1) 1) 1) (by rw [show ((t+1:Nat):Int)=(t:Int)+1 from rfl,Int.mul_add,dD,dD,<-dD 4];exact eK _),up3 h.2.2⟩
theorem pl8{p l:Int}{t:Nat}(h:p<=l)(k:l<=4+3*(t:Int))(ht:t<=12):p<=800:=bD h (bD k (bD (Int.add_le_add_left (eJ (cO.mpr ht) (by decide)) 4) (by decide)))
theorem nn0{p:Int}(h:4<=p):p≠0:=λe=>aS (e▸h) (by decide)
theorem nn1{p:Int}(h:0<=p):p≠ -1:=λe=>aS (e▸h) (by decide)
theorem nn4{p:Int}(h:4<=p):p≠ -1:=λe=>aS (e▸h) (by decide)
theorem asub{a b:Int}:a+(b - a)=b:=by rw [Int.add_comm,gQ]
theorem tre{a b c d:Nat}(h:a=b+1)(k:d<=b):a+c+1 - d=b+c+1 - d+1:=by
 subst h;rw [cV b 1 c];exact Nat.sub_add_comm (cM (aE k (bM b c)))
theorem n16{a j m:Nat}(h:m<=a+(j+1)):m<=a+1+j:=cV a j 1▸h
theorem sh14{u b r c x:Int}(hb:b+0=c)(hc:c<=13*x)(p:100<=x)(hu:u<=99)(hr:r<=99):max (u+b) r<=14*x:=by
 rw [show (14:Int)=1+13 from rfl,Int.add_mul,Int.one_mul];have q:99<=x:=bD (by decide) p;exact Int.max_le.mpr ⟨Int.add_le_add (bD hu q) ((dZ b).symm.trans hb▸hc),bD (bD hr q) (Int.le_add_of_nonneg_right (Int.mul_nonneg (by decide) (bD (by decide) q)))⟩
theorem pl9{l:Int}{t:Nat}(k:l<=4+3*(t:Int))(ht:t<=11):l+3<=800:=bD (dX (bD k (Int.add_le_add_left (eJ (cO.mpr ht) (by decide)) 4)) 3) (by decide)
theorem mJ1{p j:Int}(hp:p % 3=1)(hj:j % 3=1):p - 1≠j:=λe=>nzG hj hp (eH.mp e).symm
theorem mJ2{p j:Int}(hp:p % 3=1)(hj:j % 3=1):p - 2≠j:=λe=>nzH hj hp ((dD ..).trans (eH.mp e).symm)
theorem eA{p q:Int}(e:p - 1=q - 2):p+1=q:=(aU (· +1) (eH.mp e)).trans ((dD ..).trans (gQ q 2))
theorem mA{p q:Int}(hp:p % 3=1)(hq:q % 3=1):p - 1≠q - 2:=λe=>nzG hp hq (eA e)
theorem mB{p q:Int}(hp:p % 3=1)(hq:q % 3=1):p - 2≠q - 1:=λe=>nzG hq hp (eA e.symm)
theorem mC{p q:Int}(h:q≠p):p - 2≠q - 2:=λe=>h ((eH.mp e).trans (gQ q 2)).symm
theorem mD{p q:Int}(h:q≠p):p - 1≠q - 1:=λe=>h ((eH.mp e).trans (gQ q 1)).symm
theorem m21{p:Int}:p - 2≠p - 1:=Int.ne_of_lt (Int.sub_lt_sub_left (by decide) p)
theorem iN{i m n:Nat}(h:i+(m+1)=n):i < n:=n6 (bV h)
theorem iS{i m n:Nat}(h:i+(m+1)=n):i+1+m=n:=(cV i m 1).symm.trans h
theorem iX{i m n:Nat}{p:Prop}(h:i+(m+1)=n)(k:n<=i):p:=aS (iN h) (cB.mpr k)
theorem w1{l:Int}{a:Nat}(h:l+3<=800)(k:(a:Int)<=l):a < 800:=eG.mp (cD k (Int.lt_of_lt_of_le (Int.lt_add_of_pos_right l (by decide)) h))
theorem pb{p l:Int}(h:p % 3=1/\4<=p/\p<=l)(k:l<=800):0<=p/\p < 256 ^ 8:=⟨bD (by decide) h.2.1,cD (bD h.2.2 k) (by decide)⟩
theorem p64{p l:Int}(h:p % 3=1/\4<=p/\p<=l)(k:l<=800):0<=p/\p < 2 ^ 64:=⟨bD (by decide) h.2.1,cD (bD h.2.2 k) (by decide)⟩
theorem room{a b c l:Nat}(h:a+b+c < l):a < l:=bF (aE (bM ..) (bM ..)) h
theorem dp{a d l k m c:Nat}(hk:k<=m)(h:a+m*(d+1)+c < l):a+k+m*d+c < l:=by
 rw [Nat.mul_succ,<-fL] at h;rw [cV a k];exact bF (cQ (cY hk (a+m*d)) c) h
theorem d1{a b c l:Nat}(h:a+b+(c+1) < l):a+1 < l:=bF (dM (bM a b) (bP (dA c))) h
theorem ab1{i:Int}{n:Nat}(h:i.natAbs < n): -(n:Int) < i:=Int.neg_lt_of_neg_lt (cD Int.le_natAbs (eG.mpr (Int.natAbs_neg i▸h)))
theorem ab2{i:Int}{n:Nat}(h:i.natAbs < n):i < n:=cD Int.le_natAbs (eG.mpr h)
theorem ab3{i b:Int}{n:Nat}(h0:0<=i)(h:i<=b)(k:b < n):i.natAbs < n:=eG.mp (by rw [Int.natAbs_of_nonneg h0];exact cD h k)
theorem tn{i:Int}{m n:Nat}(h:0<=i/\i < m)(k:m<=n):i.toNat < n:=aT ((Int.toNat_lt h.1).mpr h.2) k
theorem sq{n:Nat}(h:n<=100000):(n:Int) < 2 ^ 63:=cD (cO.mpr h) (by decide)
theorem g1{k n:Nat}(h:¬(k < n))(h2:k<=n):k=n:=eV h2 (eM h)
theorem sb1{l:Int}:l+1+1+1 - 1=l+1+1:=fQ ..
theorem sb2{l:Int}:l+1+1+1 - 2=l+1:=eH.mpr (dD (l+1) 1 1)
theorem p3m{a p:Int}(h:p % 3=1)(k:a % 3≠1):a≠p:=λe=>k ((aU (· % 3) e).trans h)
theorem qk{m r k:Nat}(h:m+3<=r)(hk:k < 3):r≠m+k:=aV (aT (Nat.add_lt_add_left hk m) h)
theorem qm{m a k:Nat}(h:a=m):a<=m+k:=aE (bV h) (bM m k)
theorem nsl{a b:Nat}(h:a < b):b∉ [a]:=λe=>aV h (aH.mp e)
theorem n41{p:Int}(h:4<=p):p≠1:=λe=>aS (e▸h) (by decide)
theorem ud1{a s m:Int}:m+s=a+s+(m - a):=by rw [Int.add_right_comm,asub]
theorem ls{a b k:Nat}(e:a=b+1)(h:a<=k+1):b<=k:=by rw [e] at h;exact eY h
section
inductive V where
 | none
 | bool (b:Bool)
 | int (i:Int)
 | str (s:Str)
 | bytes (b:Array UInt8)
 | ref (n:Nat)
 | glob (a:Addr)
 | bi (id:String)
 | ty (n:String)
 deriving Inhabited
noncomputable def V.rep:V->Nat×Int×Str×Array UInt8×String
 | .none=>(0,0,"",#[],"")
 | .bool b=>(1,if b=true then 1 else 0,"",#[],"")
 | .int i=>(2,i,"",#[],"")
 | .str s=>(3,0,s,#[],"")
 | .bytes b=>(4,0,"",b,"")
 | .ref n=>(5,n,"",#[],"")
 | .glob a=>(6,(a:Nat),"",#[],"")
 | .bi i=>(7,0,"",#[],i)
 | .ty n=>(8,0,"",#[],n)
noncomputable def V.un(r:Nat×Int×Str×Array UInt8×String):V:=
 if r.1=0 then .none else if r.1=1 then .bool (decide (r.2.1=1)) else if r.1=2 then .int r.2.1 else if r.1=3 then .str r.2.2.1 else if r.1=4 then .bytes r.2.2.2.1 else
  if r.1=5 then .ref r.2.1.toNat else if r.1=6 then .glob r.2.1.toNat else if r.1=7 then .bi r.2.2.2.2 else .ty r.2.2.2.2
theorem V.un_rep(a:V):V.un a.rep=a:=by
 induction a with
 | bool b=>cases b <;> rfl
 | _=>rfl
instance:DecidableEq V:=λa b=>decidable_of_iff (a.rep=b.rep) ⟨λh=>by rw [<-V.un_rep a,<-V.un_rep b,h],aU V.rep⟩
theorem vint{a b:Int}(h:V.int a=V.int b):a=b:=by cases h;rfl
theorem vstr{a b:Str}(h:V.str a=V.str b):a=b:=by cases h;rfl
inductive O where
 | list (vs:List V)
 | tup (vs:List V)
 | dict (es:List (V×V)) (n:Nat)
 | inst (C:Addr) (d:Nat)
 | cell (v:Option V)
 | lam (body:Expr) (scope:Scope) (cells:List (Str×Nat))
 | rng (a b c:Int)
 | itL (l i:Nat)
 | itT (l i:Nat)
 | itD (d i len ep:Nat)
 | itR (x left step:Int)
 | itS (s:Str) (i:Nat)
 | itB (b:Array UInt8) (i:Nat)
 | itE (n i:Nat) (own:Option Nat)
 | dead
noncomputable def zW:O->Bool
 | .dead=>true
 | _=>false
noncomputable def qX:O->Bool
 | .lam ..=>true
 | _=>false
theorem ndd{o:O}(h:zW o=false):o≠ .dead:=λe=>by rw [e] at h;exact Bool.noConfusion h
theorem nl{o:O}(h:qX o=false):∀ b sc ce,o≠ .lam b sc ce:=λZ Z Z e=>by rw [e] at h;exact Bool.noConfusion h
structure S where
 h:List O
 l:List (Str×V)
inductive Res(α:Type) where
 | ok (a:α)
 | exc (C:Addr)
noncomputable def M(α:Type):Type:=S->Option (Res α×S)
namespace M
noncomputable def pure{α:Type}(a:α):M α:=λs=>some (.ok a,s)
noncomputable def bind{α β:Type}(m:M α)(f:α->M β):M β:=λs=>match m s with
 | Option.none=>Option.none
 | some (.ok a,s')=>f a s'
 | some (.exc C,s')=>some (.exc C,s')
instance:Monad M where
 pure:=M.pure
 bind:=M.bind
end M
theorem nos{α:Type}{x:α}{p:Prop}(h:none=some x):p:=nomatch h
noncomputable def EX{α:Type}:M α:=λZ=>Option.none
noncomputable def AU{α:Type}(C:Addr):M α:=λs=>some (.exc C,s)
noncomputable def BX(b:Bool):M Unit:=λs=>match b with
 | true=>some (.ok (),s)
 | false=>Option.none
noncomputable def DX{α:Type}:Option α->M α
 | some a=>pure a
 | Option.none=>EX
noncomputable def CX(n:Nat):M O:=λs=>match s.h[n]? with
 | some o=>some (.ok o,s)
 | Option.none=>Option.none
noncomputable def FX(o:O):M Nat:=λs=>some (.ok s.h.length,{s with h:=s.h++ [o]})
noncomputable def GX(n:Nat)(o:O):M Unit:=λs=>if n < s.h.length then some (.ok (),{s with h:=s.h.set n o}) else Option.none
noncomputable def getL(x:Str):M V:=λs=>match s.l.lookup x with
 | some v=>some (.ok v,s)
 | Option.none=>Option.none
noncomputable def putA(x:Str)(v:V):List (Str×V)->List (Str×V)
 | []=> [(x,v)]
 | (y,u)::r=>if y=x then (y,v)::r else (y,u)::putA x v r
theorem yU{x:Str}{v:V}:putA x v []= [(x,v)]:=rfl
theorem jR{x y:Str}{v u:V}{r:List (Str×V)}:putA x v ((y,u)::r)=if y=x then (y,v)::r else (y,u)::putA x v r:=rfl
noncomputable def setL(x:Str)(v:V):M Unit:=λs=>some (.ok (),{s with l:=putA x v s.l})
noncomputable def HX{α:Type}(l:List (Str×V))(m:M α):M α:=λs=>match m {s with l:=l} with
 | Option.none=>Option.none
 | some (r,s')=>some (r,{s' with l:=s.l})
noncomputable def JX{α:Type}(m:M α):M (Res α):=λs=>match m s with
 | Option.none=>Option.none
 | some (r,s')=>some (.ok r,s')
inductive Flow where
 | next
 | ret (v:V)
structure Ev where
 scope:Scope
 cells:List (Str×Nat)
 d:Nat
 lq:Option (Addr×Addr×Str):=none
 stm:Bool:=false
structure Fns where
 ev:Expr->Ev->M V
 tr:Expr->Ev->M Bool
 exs:List Stmt->Ev->M Flow
 wh:Expr->List Stmt->Ev->M Flow
 fo:Expr->Nat->List Stmt->Ev->M Flow
 co:Expr->Expr->List Expr->Nat->Nat->Ev->M Unit
 call:V->List V->Nat->M V
section
variable (K:Frag) (pM:Addr->List V->Option V) (F:Fns)
noncomputable def jI(v:Value):Option V:=match v with
 | .none=>some .none
 | .bool b=>some (.bool b)
 | .int i _=>some (.int i)
 | .str s _=>some (.str s)
 | .bytes b _=>some (.bytes b)
 | .type n=>some (.ty n)
 | .builtin i=>some (.bi i)
 | .ref a=>some (.glob a)
 | _=>Option.none
noncomputable def uD:Const->Option V
 | .none=>some .none
 | .bool b=>some (.bool b)
 | .int i=>some (.int i)
 | .str s=>some (.str s)
 | .bytes b=>some (.bytes b.toArray)
 | _=>Option.none
noncomputable def HB(x:Str):Option V:=match nsIn K mainGlobals x with
 | some (some v)=>jI v
 | some Option.none=>if x="__name__" then Option.none else (bootBuiltins x).bind jI
 | Option.none=>Option.none
noncomputable def iG(J:Ev)(x:Str):M Nat:=DX (J.cells.lookup x)
noncomputable def MJ(J:Ev)(x:Str):M V:=
 if x="__debug__" then EX else match J.scope.names.lookup x with
 | some .local=>getL x
 | some .cell | some .free=>if x="__classdict__" then EX else do
  match<-CX (<-iG J x) with
  | .cell (some v)=>pure v
  | _=>EX
 | some .globalImplicit=>DX (HB K x)
 | _=>EX
noncomputable def NB(J:Ev)(x:Str)(v:V):M Unit:=match J.scope.names.lookup x with
 | some .local=>setL x v
 | some .cell=>do
  let c<-iG J x
  match<-CX c with
  | .cell _=>GX c (.cell (some v))
  | _=>EX
 | _=>EX
noncomputable def WA(e:Expr):Bool:=e.ctorIdx !=22
noncomputable def MX:List Expr->Ev->M (List V)
 | [],_=>pure []
 | e::r,J=>if WA e=true then do
   let v<-F.ev e J
   return v::(<-MX r J)
  else EX
noncomputable def IC:V->M Bool
 | .none=>pure false
 | .bool b=>pure b
 | _=>EX
noncomputable def binI(op:Operator)(x y:Int):M V:=match op with
 | .Add=>pure (.int (x+y))
 | .Sub=>pure (.int (x - y))
 | .Mult=>if x.natAbs < 2 ^ 64/\y.natAbs < 2 ^ 64 then pure (.int (x*y)) else EX
 | .FloorDiv=>if 0 < y/\y < 1000000 then pure (.int (x / y)) else EX
 | .Mod=>if 0 < y/\y < 1000000 then pure (.int (x % y)) else EX
 | .Pow=>if (0<=x/\x<=256)/\0<=y/\y<=64 then pure (.int (x ^ y.toNat)) else EX
 | .LShift=>if x.natAbs < 2 ^ 64/\0<=y/\y<=64 then pure (.int (x*2 ^ y.toNat)) else EX
 | .RShift=>if 0<=y/\y<=64 then pure (.int (x.fdiv (2 ^ y.toNat))) else EX
 | .BitAnd=>pure (.int (Builtin.bitAnd x y))
 | _=>EX
noncomputable def binM(op:Operator)(a b:V):M V:=match a with
 | .int x=>match b with
  | .int y=>binI op x y
  | _=>EX
 | .str x=>match b with
  | .str y=>match op with
   | .Add=>if x.length+y.length<=100000 then pure (.str (x++y)) else EX
   | _=>EX
  | _=>EX
 | .ref x=>match b with
  | .ref y=>match op with
   | .Add=>do
    match<-CX x,<-CX y with
    | .list u,.list v=>do
     BX (decide (u.length+v.length<=100000))
     return .ref (<-FX (.list (u++v)))
    | _,_=>EX
   | _=>EX
  | _=>EX
 | _=>EX
noncomputable def rC:V->V->Option Bool
 | .int x,.int y=>some (decide (x=y))
 | .str x,.str y=>some (decide (x=y))
 | .none,.none=>some true
 | .none,.int _=>some false
 | .int _,.none=>some false
 | _,_=>Option.none
theorem zF{P:V->V->Bool->Prop}{a b:V}{k:Bool}(h:rC a b=some k)(ii:∀ x y,P (.int x) (.int y) (decide (x=y)))(ss:∀ x y,P (.str x) (.str y) (decide (x=y)))(n:P .none .none true)(ni:∀ y,P .none (.int y) false)(i:∀ x,P (.int x) .none false):P a b k:=by
 induction a with
 | int x=>induction b with
  | int y=>cases h;exact ii x y
  | none=>cases h;exact i x
  | _=>exact nos h
 | str x=>induction b with
  | str y=>cases h;exact ss x y
  | _=>exact nos h
 | none=>induction b with
  | none=>cases h;exact n
  | int y=>cases h;exact ni y
  | _=>exact nos h
 | _=>exact nos h
noncomputable def PB:List V->List V->Option Bool
 | [],[]=>some true
 | x::xs,y::ys=>match rC x y,PB xs ys with
  | some a,some b=>some (a && b)
  | _,_=>Option.none
 | _,_=>some false
noncomputable def eqM(a b:V):M Bool:=match a,b with
 | .ref x,.ref y=>do
  match<-CX x,<-CX y with
  | .list u,.list v=>if u.length≠v.length then pure false else DX (PB u v)
  | .tup u,.tup v=>DX (PB u v)
  | _,_=>EX
 | a,b=>DX (rC a b)
noncomputable def inL(a:V):List V->Option Bool
 | []=>some false
 | y::r=>match rC y a,inL a r with
  | some k,some j=>some (k || j)
  | _,_=>Option.none
noncomputable def wD:V->Bool
 | .int _=>true
 | .str _=>true
 | _=>false
noncomputable def IA(k:V):List (V×V)->Option V
 | []=>Option.none
 | (y,v)::r=>if y=k then some v else IA k r
noncomputable def putK(k v:V):List (V×V)->List (V×V)
 | []=> [(k,v)]
 | (y,u)::r=>if y=k then (y,v)::r else (y,u)::putK k v r
noncomputable def zB(k:V):List (V×V)->List (V×V)
 | []=> []
 | (y,u)::r=>if y=k then r else (y,u)::zB k r
theorem UB{k y v:V}{r:List (V×V)}:IA k ((y,v)::r)=if y=k then some v else IA k r:=rfl
theorem OI{k v y u:V}{r:List (V×V)}:putK k v ((y,u)::r)=if y=k then (y,v)::r else (y,u)::putK k v r:=rfl
theorem UE{k y u:V}{r:List (V×V)}:zB k ((y,u)::r)=if y=k then r else (y,u)::zB k r:=rfl
noncomputable def FE:V->V->Bool
 | .int _,.int _=>true
 | .str _,.str _=>true
 | _,_=>false
noncomputable def uA(k:V)(es:List (V×V)):Bool:=es.all λe=>FE k e.1
noncomputable def inM(a b:V):M Bool:=match b with
 | .str t=>match a with
  | .str x=>pure (Txt.contains t x)
  | _=>EX
 | .ref β=>do
  match<-CX β with
  | .list vs=>DX (inL a vs)
  | .tup vs=>DX (inL a vs)
  | .dict es _=>do
   BX (wD a && uA a es)
   return (IA a es).isSome
  | _=>EX
 | _=>EX
noncomputable def cmpM(op:CmpOp)(a b:V):M Bool:=match op with
 | .Eq=>eqM a b
 | .NotEq=>do return !(<-eqM a b)
 | .Lt=>match a,b with
  | .int x,.int y=>pure (decide (x < y))
  | _,_=>EX
 | .LtE=>match a,b with
  | .int x,.int y=>pure (decide (x<=y))
  | _,_=>EX
 | .In=>inM a b
 | .NotIn=>do return !(<-inM a b)
 | .Is=>match b with
  | .none=>match a with
   | .none=>pure true
   | .int _=>pure false
   | _=>EX
  | _=>EX
 | .IsNot=>match b with
  | .none=>match a with
   | .none=>pure false
   | .int _=>pure true
   | _=>EX
  | _=>EX
 | _=>EX
end
end
section
noncomputable def jB(a b:Str):Bool:=decide (a.cps.toList < b.cps.toList)
noncomputable def JE{α:Type}(lt:α->α->Bool)(x:α):List α->List α
 | []=> [x]
 | y::r=>if lt y x then y::JE lt x r else x::y::r
section
variable {α:Type} {lt:α->α->Bool} {x y:α} {r:List α}
theorem OL:JE lt x []= [x]:=rfl
theorem pG:JE lt x (y::r)=if lt y x then y::JE lt x r else x::y::r:=rfl
end
noncomputable def SA{α:Type}(lt:α->α->Bool):List α->List α
 | []=> []
 | x::r=>JE lt x (SA lt r)
theorem HE{α:Type}{lt:α->α->Bool}{x:α}{r:List α}:SA lt (x::r)=JE lt x (SA lt r):=rfl
noncomputable def qK{α:Type}(f:V->Option α):List V->Option (List α)
 | []=>some []
 | v::r=>(f v).bind λa=>(qK f r).map (a:: ·)
noncomputable def asI(v:V):Option Int:=match v with | .int i=>some i | _=>none
noncomputable def asS(v:V):Option Str:=match v with | .str i=>some i | _=>none
noncomputable def asB(v:V):Option Bool:=match v with | .bool i=>some i | _=>none
noncomputable def asY(v:V):Option (Array UInt8):=match v with | .bytes i=>some i | _=>none
noncomputable abbrev NE:=qK asI
noncomputable abbrev WH:=qK asS
noncomputable abbrev rJ:=qK asB
noncomputable abbrev sJ:=qK asY
theorem qF{α:Type}{f:V->Option α}{g:α->V}(h:∀ a,f (g a)=some a):∀ l:List α,qK f (l.map g)=some l:=by
 intro l
 induction l with
 | nil=>exact rfl
 | cons a l ih=>rw [bJ];show (f (g a)).bind (λb=>(qK f (l.map g)).map (b:: ·))=_;rw [h,ih];rfl
noncomputable def xD(vs:List V):Option (List V):=match NE vs with
 | some l=>some ((SA (λa b=>decide (a < b)) l).map V.int)
 | none=>match WH vs with
  | some l=>some ((SA jB l).map V.str)
  | none=>none
noncomputable def XT(o:O):Option (Str×Int):=match o with
 | .tup vs=>match vs with
  | [a,b]=>(asS a).bind λs=>(asI b).map λi=>(s,i)
  | _=>none
 | _=>none
noncomputable def OH(h:List O)(v:V):Option (Str×Int):=match v with
 | .ref a=>h[a]?.bind XT
 | _=>none
noncomputable def ZC(h:List O):List V->Option (List (V×Str×Int))
 | []=>some []
 | v::r=>match OH h v,ZC h r with
  | some p,some l=>some ((v,p)::l)
  | _,_=>none
noncomputable def XA(a b:V×Str×Int):Bool:=jB a.2.1 b.2.1 || (decide (a.2.1=b.2.1) && decide (a.2.2 < b.2.2))
noncomputable def getS:M S:=λs=>some (.ok s,s)
noncomputable def jE(l:List (V×Str×Int)):Bool:=decide ((l.map (·.2)).Nodup)
noncomputable def GV(vs:List V):M V:=do
 BX (decide (vs.length < 64))
 match xD vs with
 | some l=>return .ref (<-FX (.list l))
 | none=>do
  let s<-getS
  let l<-DX (ZC s.h vs)
  BX (jE l)
  return .ref (<-FX (.list ((SA XA l).map (·.1))))
noncomputable def lenM:V->M Int
 | .str s=>do
  BX (decide (s.length<=100000))
  pure s.length
 | .bytes b=>do
  BX (decide (b.size<=100000))
  pure b.size
 | .ref a=>do
  match<-CX a with
  | .list vs=>do
   BX (decide (vs.length<=100000))
   pure vs.length
  | _=>EX
 | _=>EX
noncomputable def IX(v:V):M (List V):=match v with
 | .ref a=>do
  match<-CX a with
  | .list vs=>pure vs
  | _=>EX
 | _=>EX
noncomputable def on1(args:List V)(f:V->M V):M V:=match args with | [x]=>f x | _=>EX
noncomputable def on2(args:List V)(f:V->V->M V):M V:=match args with | [x,y]=>f x y | _=>EX
noncomputable def on3(args:List V)(f:V->V->V->M V):M V:=match args with | [x,y,z]=>f x y z | _=>EX
noncomputable def onR(v:V)(f:Nat->M V):M V:=match v with | .ref a=>f a | _=>EX
noncomputable def onI(v:V)(f:Int->M V):M V:=match v with | .int a=>f a | _=>EX
noncomputable def onS(v:V)(f:Str->M V):M V:=match v with | .str a=>f a | _=>EX
noncomputable def onB(v:V)(f:Array UInt8->M V):M V:=match v with | .bytes a=>f a | _=>EX
noncomputable def on0(v:V)(m:M V):M V:=onI v λi=>if i=0 then m else EX
noncomputable def lB(id:String)(args:List V):M V:=
 if id="len" then on1 args λx=>do return .int (<-lenM x)
 else if id="sum" then on1 args λx=>do return .int (<-DX (NE (<-IX x))).sum
 else if id="max" then on2 args λx y=>onI x λx=>onI y λy=>pure (.int (max x y))
 else if id="all" then on1 args λx=>do return .bool ((<-DX (rJ (<-IX x))).all λb=>b)
 else if id="sorted" then on1 args λx=>onR x λa=>do
  match<-CX a with
  | .list vs=>GV vs
  | .dict es _=>do
   BX (decide (es.length < 64))
   return .ref (<-FX (.list (<-DX (xD (es.map (·.1))))))
  | _=>EX
 else if id="dict.get" then on2 args λx k=>onR x λa=>do
  match<-CX a with
  | .dict es _=>do
   BX (wD k && uA k es)
   return (IA k es).getD .none
  | _=>EX
 else if id="dict.pop" then on2 args λx k=>onR x λa=>do
  match<-CX a with
  | .dict es n=>do
   BX (wD k && uA k es && decide (es.length<=900))
   let v<-DX (IA k es)
   GX a (.dict (zB k es) (n+1))
   return v
  | _=>EX
 else if id="list.append" then on2 args λy x=>onR y λa=>do
  match<-CX a with
  | .list vs=>do
   BX (decide (vs.length < 100000))
   GX a (.list (vs++ [x]))
   return .none
  | _=>EX
 else if id="list.insert" then on3 args λy z x=>onR y λa=>on0 z (do
  match<-CX a with
  | .list vs=>do
   BX (decide (vs.length < 100000))
   GX a (.list (x::vs))
   return .none
  | _=>EX)
 else if id="list.pop" then on2 args λy z=>onR y λa=>on0 z (do
  match<-CX a with
  | .list (x::vs)=>do
   BX (decide (vs.length<=100000))
   GX a (.list vs)
   pure x
  | _=>EX)
 else if id="str.join" then on2 args λy x=>onS y λs=>do
  let l<-DX (WH (<-IX x))
  BX (decide (s.length<=16/\(l.map (·.length)).sum+l.length<=1048576))
  return .str (Txt.join s l)
 else if id="str.split" then on2 args λx y=>onS x λs=>onS y λt=>do
  BX (decide (0 < t.length/\s.length<=100000))
  return .ref (<-FX (.list ((Txt.split s t).map V.str)))
 else if id="bytes.join" then on2 args λy x=>onB y λb=>do
  let l<-DX (sJ (<-IX x))
  BX (decide (2<=l.length/\b.size=0/\(l.map (·.size)).sum<=100000))
  return .bytes (Builtin.Bytes.joined b l)
 else EX
noncomputable def ZD(n:String)(args:List V):M V:=
 if n="bytes" then on1 args λx=>match x with
  | .bytes b=>pure (.bytes b)
  | .ref a=>do
   let vs<-IX (.ref a)
   let ns<-DX (NE vs)
   BX (decide (vs.length<=1000) && ns.all λn=>decide (0<=n/\n < 256))
   return .bytes (byteArr ns)
  | _=>EX
 else if n="enumerate" then on1 args λx=>onB x λb=>do
  let n<-FX (.itB b 0)
  let e<-FX (.itE n 0 none)
  return .ref e
 else if n="list" then on1 args λx=>do
  let vs<-IX x
  BX (decide (vs.length<=100000))
  return .ref (<-FX (.list vs))
 else if n="range" then match args with
  | [_]=>on1 args λx=>onI x λb=>do return .ref (<-FX (.rng 0 b 1))
  | _=>on3 args λx y z=>onI x λa=>onI y λb=>onI z λc=>do
   BX (decide (0<=a/\a<=100000/\0<=b/\b<=100000/\0 < c/\c<=100000))
   return .ref (<-FX (.rng a b c))
 else EX
section
variable (K:Frag) (pM:Addr->List V->Option V) (cs:List (Addr×Addr×Str)) (F:Fns)
noncomputable def sN(name:Str)(es:List (V×V)):Bool:=(IA (.str name) es).isSome
noncomputable def WC(v:V)(name:Str):M (V×List V):=match v with
 | .str s=>if name="join" then pure (.bi "str.join",[.str s]) else if name="split" then pure (.bi "str.split",[.str s]) else EX
 | .bytes b=>if name="join" then pure (.bi "bytes.join",[.bytes b]) else EX
 | .ref a=>do
  match<-CX a with
  | .list _=>if name="append" then pure (.bi "list.append",[v]) else if name="insert" then pure (.bi "list.insert",[v]) else if name="pop" then pure (.bi "list.pop",[v]) else EX
  | .dict _ _=>if name="get" then pure (.bi "dict.get",[v]) else if name="pop" then pure (.bi "dict.pop",[v]) else EX
  | .inst C d=>do
   match<-CX d with
   | .dict es _=>match findIn K (.ref C) name with
    | some (some (.ref f))=>do
     BX (plainGet K C name && isFn K (.ref f) && !sN name es && uA (.str name) es)
     return (.glob f,[v])
    | _=>EX
   | _=>EX
  | _=>EX
 | _=>EX
noncomputable def wQ:V->Option V
 | .bi _=>none
 | v=>some v
noncomputable def AF(v:V)(name:Str):M V:=match v with
 | .ref a=>do
  match<-CX a with
  | .inst C d=>do
   match<-CX d with
   | .dict es _=>match findIn K (.ref C) name with
    | some attr=>do
     BX (plainGet K C name && hasDictIn K C && noGet K attr && uA (.str name) es)
     DX ((IA (.str name) es).bind wQ)
    | _=>EX
   | _=>EX
  | _=>EX
 | _=>EX
noncomputable def KX(k v:V)(es:List (V×V))(n:Nat):O:= .dict (putK k v es) (if (IA k es).isSome then n else n+1)
noncomputable def GE(o:V)(name:Str)(v:V):M Unit:=match o with
 | .ref a=>do
  match<-CX a with
  | .inst C d=>do
   match<-CX d with
   | .dict es n=>do
    BX (findIn K (.ref C) "__setattr__"==some (some (.builtin "object.__setattr__")) && plainOver K C && takerIn K C name==some none && hasDictIn K C && uA (.str name) es && decide (es.length<=900))
    GX d (KX (.str name) v es n)
   | _=>EX
  | _=>EX
 | _=>EX
noncomputable def PH:V->Option (Option Int)
 | .none=>some none
 | .int i=>some (some i)
 | _=>none
noncomputable def YE(vs:List V)(lo hi st:Option Int):List V:=(sliceRange (sliceBounds lo hi st vs.length).1 (sliceBounds lo hi st vs.length).2.1 (sliceBounds lo hi st vs.length).2.2).filterMap (vs[·]?)
noncomputable def TH(o lo hi st:V):M V:=match PH lo,PH hi,PH st with
 | some l,some u,some t=>match o with
  | .bytes b=>do
   BX (decide (t=none) && decide (b.size<=100000) && !KBy.whole b l u)
   return .bytes (KBy.picked b l u)
  | .ref a=>do
   match<-CX a with
   | .list vs=>do
    BX (decide (t≠some 0/\vs.length<=100000))
    return .ref (<-FX (.list (YE vs l u t)))
   | _=>EX
  | _=>EX
 | _,_,_=>EX
noncomputable def GJ(o i:V):M V:=match o with
 | .ref a=>do
  match<-CX a with
  | .list vs=>match i with
   | .int k=>do
    BX (decide (0<=k/\k < 2 ^ 62))
    DX vs[k.toNat]?
   | _=>EX
  | .tup vs=>match i with
   | .int k=>do
    BX (decide (0<=k/\k < 2 ^ 62))
    DX vs[k.toNat]?
   | _=>EX
  | .dict es _=>do
   BX (wD i && uA i es)
   DX (IA i es)
  | _=>EX
 | _=>EX
noncomputable def sD(o i v:V):M Unit:=match o with
 | .ref a=>do
  match<-CX a with
  | .list vs=>match i with
   | .int k=>do
    BX (decide (0<=k/\k < vs.length/\k < 2 ^ 62))
    GX a (.list (vs.set k.toNat v))
   | _=>EX
  | .dict es n=>do
   BX (wD i && uA i es && decide (es.length<=900))
   GX a (KX i v es n)
  | _=>EX
 | _=>EX
noncomputable def IF(a:Nat)(i v:V):M Unit:=do
 match<-CX a with
 | .dict es n=>do
  BX (wD i && uA i es && decide (es.length<=900))
  GX a (KX i v es n)
 | _=>EX
noncomputable def ZE(o lo hi v:V):M Unit:=match o,lo,hi,v with
 | .ref a,.none,.int b,.ref c=>do
  match<-CX a with
  | .list vs=>do
   match<-CX c with
   | .list ws=>do
    BX (decide (0<=b/\b<=vs.length/\a≠c/\vs.length<=1000/\ws.length<=1000))
    GX a (.list (ws++vs.drop b.toNat))
   | _=>EX
  | _=>EX
 | _,_,_,_=>EX
noncomputable def nD(o i:V):M Unit:=match o with
 | .ref a=>do
  match<-CX a with
  | .dict es n=>do
   BX (wD i && uA i es && (IA i es).isSome && decide (es.length<=900))
   GX a (.dict (zB i es) (n+1))
  | _=>EX
 | _=>EX
noncomputable def QD(v:V):M (List V):=match v with
 | .ref a=>do
  match<-CX a with
  | .list vs=>pure vs
  | .tup vs=>pure vs
  | _=>EX
 | _=>EX
noncomputable def mU(z:Expr):Option {x:Expr×Expr×Pos // z= .Subscript x.1 x.2.1 x.2.2}:=if h:z.ctorIdx=21 then Expr.Subscript.elim (motive_1:=λz=>Option {x:Expr×Expr×Pos // z= .Subscript x.1 x.2.1 x.2.2}) z h λo i p=>some ⟨(o,i,p),rfl⟩ else none
noncomputable def jQ(z:Expr):Option (Expr×Expr×Pos):=(mU z).map (·.1)
noncomputable def iQ(z:Expr):Option {x:Str×Pos // z= .Name x.1 x.2}:=if h:z.ctorIdx=23 then Expr.Name.elim (motive_1:=λz=>Option {x:Str×Pos // z= .Name x.1 x.2}) z h λx p=>some ⟨(x,p),rfl⟩ else none
noncomputable def lE(z:Expr):Option (Str×Pos):=(iQ z).map (·.1)
noncomputable def YP(z:Expr):Option {x:Expr×Str×Pos // z= .Attribute x.1 x.2.1 x.2.2}:=if h:z.ctorIdx=20 then Expr.Attribute.elim (motive_1:=λz=>Option {x:Expr×Str×Pos // z= .Attribute x.1 x.2.1 x.2.2}) z h λo m p=>some ⟨(o,m,p),rfl⟩ else none
noncomputable def xF(z:Expr):Option (Expr×Str×Pos):=(YP z).map (·.1)
noncomputable def oN(z:Expr):Option {x:List Expr×Nat×Pos // z= .Tuple x.1 x.2.1 x.2.2}:=if h:z.ctorIdx=25 then Expr.Tuple.elim (motive_1:=λz=>Option {x:List Expr×Nat×Pos // z= .Tuple x.1 x.2.1 x.2.2}) z h λl k p=>some ⟨(l,k,p),rfl⟩ else none
noncomputable def vD(z:Expr):Option (List Expr×Nat×Pos):=(oN z).map (·.1)
noncomputable def nN(z:Expr):Option {x:(Option Expr×Option Expr×Option Expr)×Pos // z= .Slice x.1.1 x.1.2.1 x.1.2.2 x.2}:=if h:z.ctorIdx=26 then Expr.Slice.elim (motive_1:=λz=>Option {x:(Option Expr×Option Expr×Option Expr)×Pos // z= .Slice x.1.1 x.1.2.1 x.1.2.2 x.2}) z h λa b c p=>some ⟨((a,b,c),p),rfl⟩ else none
noncomputable def vC(z:Expr):Option ((Option Expr×Option Expr×Option Expr)×Pos):=(nN z).map (·.1)
noncomputable def optE(e:Option Expr)(J:Ev):M V:=match e with
 | some e=>F.ev e J
 | none=>pure .none
noncomputable def YD(o i:Expr)(J:Ev)(v:V):M Unit:=match vC i with
 | some p=>if p.1.2.2.isSome=true then EX else do
  let ov<-F.ev o J
  let l<-optE F p.1.1 J
  let u<-optE F p.1.2.1 J
  ZE ov l u v
 | none=>do
  let ov<-F.ev o J
  let iv<-F.ev i J
  sD ov iv v
noncomputable def rF(t:Expr)(J:Ev)(v:V):M Unit:=match lE t with
 | some x=>NB J x.1 v
 | none=>match xF t with
  | some x=>do
   let ov<-F.ev x.1 J
   GE K ov x.2.1 v
  | none=>match jQ t with
   | some x=>YD F x.1 x.2.1 J v
   | none=>EX
noncomputable def CC:List Expr->Ev->List V->M Unit
 | [],_,[]=>pure ()
 | t::ts,J,v::vs=>do
  rF K F t J v
  CC ts J vs
 | _,_,_=>EX
noncomputable def sB(t:Expr)(J:Ev)(v:V):M Unit:=match vD t with
 | some p=>do
  BX (p.1.all WA)
  let vs<-QD v
  BX (decide (vs.length=p.1.length))
  CC K F p.1 J vs
 | none=>rF K F t J v
noncomputable def LD(J:Ev):List Str->List V->M Unit
 | [],[]=>pure ()
 | x::xs,v::vs=>do
  NB J x v
  LD J xs vs
 | _,_=>EX
noncomputable def BQ:V->Bool
 | .int _=>true
 | _=>false
noncomputable def yB(es:List (V×V)):Bool:=es.all λe=>BQ e.1
noncomputable def oE(v:V):M Nat:=match v with
 | .ref a=>do
  match<-CX a with
  | .list _=>FX (.itL a 0)
  | .tup _=>FX (.itT a 0)
  | .dict es n=>do
   BX (yB es)
   FX (.itD a 0 es.length n)
  | .rng x b c=>do
   BX (Builtin.Range.small x b c)
   FX (.itR x (Builtin.Range.rangeSize x b c) c)
  | .itE ..=>pure a
  | _=>EX
 | .str s=>FX (.itS s 0)
 | _=>EX
noncomputable def tE(it:Nat)(o:O)(v:Option V):M (Option V):=match v with
 | some v=>do
  GX it o
  return some v
 | none=>do
  GX it .dead
  return none
noncomputable def mX(it n i:Nat)(b:Array UInt8)(c:UInt8):M (Option V):=λs=>
 some (.ok (some (.ref s.h.length)),{s with h:=(s.h.set n (.itB b (i+1))).set it (.itE n (i+1) (some s.h.length))++ [.tup [.int i,.int (c.toNat:Int)]]})
noncomputable def EF(it:Nat):M (Option V):=do
 match<-CX it with
 | .itL l i=>do
  match<-CX l with
  | .list vs=>tE it (.itL l (i+1)) vs[i]?
  | _=>EX
 | .itT l i=>do
  match<-CX l with
  | .tup vs=>tE it (.itT l (i+1)) vs[i]?
  | _=>EX
 | .itD d i len ep=>do
  match<-CX d with
  | .dict es n=>do
   BX (decide (n=ep/\es.length=len) && yB es)
   tE it (.itD d (i+1) len ep) (es[i]?.map (·.1))
  | _=>EX
 | .itR x left step=>tE it (.itR (x+step) (left - 1) step) (if 0 < left then some (.int x) else none)
 | .itS s i=>tE it (.itS s (i+1)) (s.cps[i]?.map λc=> .str ⟨#[c]⟩)
 | .itE n i none=>do
  match<-CX n with
  | .itB b j=>do
   BX (decide (i=j/\i<=b.size/\n≠it))
   match b[i]? with
   | some c=>mX it n i b c
   | none=>do
    GX n .dead
    return none
  | _=>EX
 | _=>EX
noncomputable def iE(J:Ev):V->List CmpOp->List Expr->M Bool
 | l,[op],[e]=>do
  let r<-F.ev e J
  cmpM op l r
 | l,op::ops,e::es=>do
  let r<-F.ev e J
  if<-cmpM op l r then iE J r ops es else pure false
 | _,_,_=>EX
noncomputable def EB(e:Expr):Bool:=e.ctorIdx !=7
noncomputable def qJ(J:Ev)(op:BoolOp):List Expr->M V
 | []=>EX
 | [e]=>F.ev e J
 | e::r=>do
  let v<-F.ev e J
  let t<-IC v
  match op,t with
  | .And,false=>pure v
  | .Or,true=>pure v
  | _,_=>qJ J op r
noncomputable def PD(J:Ev)(op:BoolOp):List Expr->M Bool
 | []=>pure (op== .And)
 | e::r=>do
  match op,<-F.tr e J with
  | .And,false=>pure false
  | .Or,true=>pure true
  | _,_=>PD J op r
noncomputable def MB(J:Ev):List (Str×NameKind)->List (Str×Nat)->M (List (Str×Nat))
 | [],acc=>pure acc
 | (x,k)::r,acc=>if k= .free then do
   let c<-iG J x
   MB J r ((x,c)::acc)
  else MB J r acc
theorem UM{J:Ev}{x:Str}{k:NameKind}{r:List (Str×NameKind)}{acc:List (Str×Nat)}:MB J ((x,k)::r) acc=if k= .free then iG J x >>=λc=>MB J r ((x,c)::acc) else MB J r acc:=rfl
noncomputable def JA(J:Ev)(scope:Scope):Scope:={scope with names:=scope.names.map λ(n,k)=>if k== .free && J.scope.names.lookup n==some .cell then (n,.cell) else (n,k)}
noncomputable def tF(scope:Scope):Bool:=scope.kind== .function && scope.names.all λp=>p.2 != .cell && (p.2 != .local || scope.names.lookup p.1==some .local)
noncomputable def LX{α:Type}(m:M α):M α:=λs=>match m s with
 | some (.ok a,s')=>some (.ok a,s')
 | _=>none
noncomputable def QJ(e:Expr):Bool:=e.ctorIdx !=24
noncomputable def ownM(t:Expr)(it:Nat)(v:V):M Unit:=match vD t with
 | some _=>do
  match<-CX it with
  | .itL ..=>pure ()
  | .itE n i w=>match w with
   | some k=>do
    BX (decide (v= .ref k))
    GX it (.itE n i none)
   | none=>EX
  | _=>EX
 | none=>BX (QJ t)
noncomputable def iD(o:Expr):Bool:=if h:o.ctorIdx=16 then Expr.Call.elim (motive_1:=λ_=>Bool) o h λf as ks _=>!(f.ctorIdx==23 && as.isEmpty && ks.isEmpty) else true
noncomputable def unM(op:UnaryOp)(x:Expr)(J:Ev):M V:=match op with
 | .Not=>do
  let v<-F.ev x J
  return .bool (!(<-IC v))
 | .USub=>do
  let v<-F.ev x J
  match v with
  | .int i=>pure (.int (-i))
  | _=>EX
 | _=>EX
noncomputable def zS(ks:List (Option Expr))(vs:List Expr)(J:Ev):M V:=match ks,vs with
 | [],[]=>do return .ref (<-FX (.dict [] 0))
 | [some k],[v]=>do
  let d<-FX (.dict [] 0)
  let a<-F.ev k J
  let b<-F.ev v J
  IF d a b
  return .ref d
 | _,_=>EX
noncomputable def tC(f:V):M Unit:=match f with
 | .bi _=>pure ()
 | .ty _=>pure ()
 | .glob a=>BX (keepIn K (.ref a))
 | .ref n=>do
  match<-CX n with
  | .lam ..=>pure ()
  | _=>EX
 | _=>EX
noncomputable def EP(f:Expr)(args:List Expr)(kws:List Keyword)(pos:Pos)(J:Ev):M V:=do
 BX (kws.isEmpty && decide (args.length < 20) && args.all WA)
 match xF f with
 | some p=>do
  BX (iD p.1 && p.2.2.endLine==pos.line)
  let ov<-F.ev p.1 J
  let fv<-WC K ov p.2.1
  let vs<-MX F args J
  tC K fv.1
  F.call fv.1 (fv.2++vs) J.d
 | none=>do
  let fv<-F.ev f J
  let vs<-MX F args J
  tC K fv
  F.call fv vs J.d
noncomputable def subE(o i:Expr)(J:Ev):M V:=match vC i with
 | some p=>do
  let ov<-F.ev o J
  let l<-optE F p.1.1 J
  let u<-optE F p.1.2.1 J
  let t<-optE F p.1.2.2 J
  TH ov l u t
 | none=>do
  let ov<-F.ev o J
  let iv<-F.ev i J
  GJ ov iv
noncomputable def lV(elt:Expr)(gens:List Comprehension)(scope:Scope)(J:Ev):M V:=match gens with
 | [⟨target,jZ,Ag,0⟩]=>do
  BX (tF scope && EB jZ)
  let cells<-MB J scope.names []
  let x<-F.ev jZ J
  let it<-oE x
  let acc<-FX (.list [])
  LX (HX [] (F.co target elt Ag it acc {scope:=JA J scope,cells,d:=J.d}))
  return .ref acc
 | _=>EX
noncomputable def RQ(p:Arguments):Bool:=p.posonlyargs.isEmpty && p.args.isEmpty && p.vararg.isNone && p.kwonlyargs.isEmpty && p.kw_defaults.isEmpty && p.kwarg.isNone && p.defaults.isEmpty
noncomputable def lamE(args:Arguments)(body:Expr)(scope:Scope)(J:Ev):M V:=do
 BX (RQ args)
 BX J.lq.isSome
 let cells<-MB J scope.names []
 return .ref (<-FX (.lam body scope cells))
noncomputable def evM:Expr->Ev->M V
 | .Constant c _ _,_=>DX (uD c)
 | .Name x _,J=>MJ K J x
 | .BoolOp op vs _,J=>qJ F J op vs
 | .BinOp l op r _,J=>do
  let a<-F.ev l J
  let b<-F.ev r J
  binM op a b
 | .UnaryOp op x _,J=>unM F op x J
 | .IfExp t b o _,J=>do
  if<-F.tr t J then F.ev b J else F.ev o J
 | .Dict ks vs _,J=>zS F ks vs J
 | .List es _,J=>do
  BX (decide (es.length<=1000))
  return .ref (<-FX (.list (<-MX F es J)))
 | .Tuple es _ _,J=>do
  BX (decide (es.length<=1000))
  return .ref (<-FX (.tup (<-MX F es J)))
 | .Compare l ops rs _,J=>do
  BX (rs.all EB)
  let a<-F.ev l J
  return .bool (<-iE F J a ops rs)
 | .Call f args kws pos,J=>EP K F f args kws pos J
 | .Attribute o name _,J=>do
  BX (iD o)
  let ov<-F.ev o J
  AF K ov name
 | .Subscript o i _,J=>subE F o i J
 | .ListComp elt gens scope _,J=>lV F elt gens scope J
 | .Lambda args body scope _,J=>lamE args body scope J
 | _,_=>EX
noncomputable def trM:Expr->Ev->M Bool
 | .UnaryOp .Not x _,J=>do return !(<-F.tr x J)
 | .BoolOp op vs _,J=>PD F J op vs
 | .IfExp t b o _,J=>do
  if<-F.tr t J then F.tr b J else F.tr o J
 | .Compare l ops rs _,J=>do
  BX (rs.all EB)
  let a<-F.ev l J
  iE F J a ops rs
 | e,J=>do
  let v<-F.ev e J
  IC v
noncomputable def WJ(J:Ev):Env:={scope:=J.scope,locals:=0,globals:=0,cells:= []}
noncomputable def semP{α:Type}(z:Sem α):Option {x:α // z= .pure x}:=if h:z.ctorIdx=0 then Sem.pure.elim (motive:=λz=>Option {x:α // z= .pure x}) z h λx=>some ⟨x,rfl⟩ else none
noncomputable def TI(targets:List Expr)(mY:Expr)(J:Ev):Option (Option (List Str)):=(semP (swappedStores targets mY (WJ J))).map (·.1)
noncomputable def LH(e:Expr):Bool:=decide (e.ctorIdx < 8\/10 < e.ctorIdx)
noncomputable def tM{α:Type}(l:List α):Option α:=match l with | [a]=>some a | _=>none
noncomputable def TK{α:Type}(l:List α):Option (α×α):=match l with | [a,b]=>some (a,b) | _=>none
noncomputable def ZP(z:Expr):Option {x:Expr×List Expr×List Keyword×Pos // z= .Call x.1 x.2.1 x.2.2.1 x.2.2.2}:=if h:z.ctorIdx=16 then Expr.Call.elim (motive_1:=λz=>Option {x:Expr×List Expr×List Keyword×Pos // z= .Call x.1 x.2.1 x.2.2.1 x.2.2.2}) z h λf a k p=>some ⟨(f,a,k,p),rfl⟩ else none
noncomputable def jN(z:Expr):Option (Expr×List Expr×List Keyword×Pos):=(ZP z).map (·.1)
noncomputable def mN(z:Expr):Option {x:Const×Nat×Pos // z= .Constant x.1 x.2.1 x.2.2}:=if h:z.ctorIdx=19 then Expr.Constant.elim (motive_1:=λz=>Option {x:Const×Nat×Pos // z= .Constant x.1 x.2.1 x.2.2}) z h λc k p=>some ⟨(c,k,p),rfl⟩ else none
noncomputable def LL(z:Expr):Option (Const×Nat×Pos):=(mN z).map (·.1)
noncomputable def AR(z:Stmt):Option {x:Expr×Pos // z= .Expr x.1 x.2}:=if h:z.ctorIdx=24 then Stmt.Expr.elim (motive_2:=λz=>Option {x:Expr×Pos // z= .Expr x.1 x.2}) z h λe p=>some ⟨(e,p),rfl⟩ else none
noncomputable def CU(z:Stmt):Option (Expr×Pos):=(AR z).map (·.1)
noncomputable def BU(z:Stmt):Option {x:List Expr×Expr×Pos // z= .Assign x.1 x.2.1 x.2.2}:=if h:z.ctorIdx=5 then Stmt.Assign.elim (motive_2:=λz=>Option {x:List Expr×Expr×Pos // z= .Assign x.1 x.2.1 x.2.2}) z h λl e p=>some ⟨(l,e,p),rfl⟩ else none
noncomputable def RW(z:Stmt):Option (List Expr×Expr×Pos):=(BU z).map (·.1)
noncomputable def DU(z:Stmt):Option {x:Option Expr×Pos // z= .Return x.1 x.2}:=if h:z.ctorIdx=3 then Stmt.Return.elim (motive_2:=λz=>Option {x:Option Expr×Pos // z= .Return x.1 x.2}) z h λe p=>some ⟨(e,p),rfl⟩ else none
noncomputable def SW(z:Stmt):Option (Option Expr×Pos):=(DU z).map (·.1)
noncomputable def EE(b:List Stmt):Option (V×V):=do
 let r<-SW (<-tM b)
 let t<-vD (<-r.1)
 let p<-TK t.1
 return (<-uD (<-LL p.1).1,<-uD (<-LL p.2).1)
noncomputable def lI:List Value->Option (List V)
 | []=>some []
 | v::r=>match jI v,lI r with
  | some u,some us=>some (u::us)
  | _,_=>none
noncomputable def AJ(fd:FuncData):Option (List V):=match fd.defaults with
 | .none=>some []
 | .ref t=>match K.lookup t with
  | some o=>match o.data with
   | .seq vs _=>if o.cls= .type "tuple" then lI vs.toList else none
   | _=>none
  | none=>none
 | _=>none
noncomputable def AC(p:Arguments):Bool:=p.posonlyargs.isEmpty && p.vararg.isNone && p.kwonlyargs.isEmpty && p.kwarg.isNone
noncomputable def JC(fd:FuncData)(args:List V):Option (List V):=match AJ K fd with
 | some ds=>if args.length=fd.params.args.length/\ds.length<=args.length then some args
  else if args.length+ds.length=fd.params.args.length then some (args++ds) else none
 | none=>none
noncomputable def fdOk(fd:FuncData):Bool:=AC fd.params && decide ((fd.params.args.map (·.arg)).Nodup) && fd.closure.isEmpty && !fd.scope.isCoroutine && !fd.scope.isGenerator && fd.scope.kind== .function && fd.globals==mainGlobals && fd.builtins==builtinsNs && codeIn K fd.code fd.qualname
noncomputable def AW(v:Value):Bool:=match v with | .ref _=>true | _=>false
noncomputable def OB(l:List Value):Bool:=l.dropWhile AW== [.type "Exception",.type "BaseException",.type "object"]
noncomputable def ZR(o:Obj):Option ClassData:=match o.data with | .cls cd=>some cd | _=>none
noncomputable def AK(C:Addr)(fi:Addr):Bool:=match K.lookup C with
 | some o=>match ZR o with
  | some cd=>o.cls== .type "type" && !cd.hasDel && OB cd.mro && cd.mro.head? ==some (.ref C) && OB cd.mro.tail && o.slots.size==6 && o.slots[4]? ==some (some (.builtin "Exception.__new__")) && hasDictIn K C && findIn K (.ref C) "__init__"==some (some (.ref fi)) && typeIn K (.ref fi)==some (.type "function")
  | none=>false
 | none=>false
noncomputable def ZT(b:FuncBody):Option (List Stmt):=match b with | .stmts l=>some l | _=>none
noncomputable def uK(s:Stmt):Option ((Str×Pos)×(Str×Pos)×(Str×Pos)×(Str×Pos)×Pos×Pos):=do
 let c0<-CU s
 let c<-jN c0.1
 let m<-xF c.1
 let n<-lE m.1
 let as<-TK c.2.1
 let u<-lE as.1
 let v<-lE as.2
 if c.2.2.1.isEmpty=true then some (n,u,v,m.2,c.2.2.2,c0.2) else none
noncomputable def QI(s:Stmt):Option ((Str×Pos)×(Str×Pos)×(Str×Pos)×Pos):=do
 let g<-RW s
 let t0<-tM g.1
 let t<-xF t0
 let u<-lE t.1
 let v<-lE g.2.1
 some (u,v,t.2,g.2.2)
noncomputable def FJ(p:Arguments)(xs:Arg×Arg)(c:(Str×Pos)×(Str×Pos)×(Str×Pos)×(Str×Pos)×Pos×Pos)(g:(Str×Pos)×(Str×Pos)×(Str×Pos)×Pos):Bool:=
 (AC p && p.kw_defaults.isEmpty && p.defaults.isEmpty) && (decide (c.2.2.2.1.1="__init__") && decide (xs.1.arg=c.2.1.1) && decide (xs.2.arg=c.2.2.1.1)) && (decide (g.1.1=c.2.1.1) && decide (g.2.1.1=c.2.2.1.1) && decide (c.2.1.1≠c.2.2.1.1) && decide (c.2.2.2.1.2.endLine=c.2.2.2.2.1.line))
noncomputable def yH(fd:FuncData):Option (Str×Str×Str×Str):=do
 let xs<-TK fd.params.args
 let l<-ZT fd.body
 let b<-TK l
 let c<-uK b.1
 let g<-QI b.2
 if FJ fd.params xs c g=true then some (c.1.1,c.2.1.1,c.2.2.1.1,g.2.2.1.1) else none
noncomputable def IW:Value->Bool
 | .none=>true
 | _=>false
noncomputable def pX:Option CFound->Bool
 | some (.val v)=>v== .builtin "Exception.__init__"
 | _=>false
noncomputable def tN(C:Addr)(fd:FuncData):Bool:=match yH fd with
 | some (xn,a,b,attr)=>fdOk K fd && IW fd.defaults && HB K xn==some (.ty "Exception") && xn !="__debug__" && a !="__debug__" && b !="__debug__" &&
   fd.scope.names.lookup xn==some .globalImplicit && fd.scope.names.lookup a==some .local && fd.scope.names.lookup b==some .local && fd.scope.names.all (λp=>p.2 != .cell) &&
   takerIn K C attr==some none && findIn K (.ref C) "__setattr__"==some (some (.builtin "object.__setattr__")) &&
   pX (findCls K (.type "Exception") (.type "type") "__init__")
 | none=>false
noncomputable def lQ(C:Addr):Bool:=keepIn K (.ref C) && (match findIn K (.ref C) "__init__" with
 | some (some (.ref fi))=>AK K C fi && (match K.lookup fi with
  | some ⟨_,_,.func fd,_⟩=>tN K C fd
  | _=>false)
 | _=>false)
noncomputable def nU(x:Str):Option Addr:=match HB K x with | some (.glob D)=>some D | _=>none
noncomputable def nE(J:Ev)(C:Addr):List ExceptHandler->Option (List Stmt)
 | []=>none
 | .ExceptHandler t nm body _::r=>t.bind λe=>(lE e).bind λx=>(nU K x.1).bind λD=>
  if nm.isSome=true\/J.scope.names.lookup x.1≠some .globalImplicit\/x.1="__debug__"\/subIn K (.ref D) (.type "BaseException")≠some true\/typeIn K (.ref D)≠some (.type "type")\/(clsIn K D).isSome=false then none else (subIn K (.ref C) (.ref D)).bind λs=>if s=true then some body else nE J C r
noncomputable def SH(x:Str)(a:Expr)(J:Ev):M Flow:=match HB K x,J.scope.names.lookup x with
 | some (.glob C),some .globalImplicit=>do
  BX (lQ K C && WA a && x !="__debug__")
  let _<-F.ev a J
  AU C
 | _,_=>EX
noncomputable def tryE(body:List Stmt)(handlers:List ExceptHandler)(J:Ev):M Flow:=do
 BX J.stm
 match<-JX (F.exs body J) with
 | .ok f=>pure f
 | .exc C=>match (nE K J C handlers).bind EE with
  | some (u,v)=>return .ret (.ref (<-FX (.tup [u,v])))
  | none=>EX
noncomputable def RB:Stmt->Ev->M Flow
 | .Expr e _,J=>do
  BX (LH e)
  let _<-F.ev e J
  return .next
 | .Pass _,_=>pure .next
 | .Return (some e) _,J=>do return .ret (<-F.ev e J)
 | .Assign [t] e _,J=>do
  BX (LH e)
  let v<-F.ev e J
  match TI [t] e J with
  | some (some names)=>do
   let vs<-QD v
   BX (decide (vs.length=names.length))
   LD J names.reverse vs.reverse
   return .next
  | some none=>do
   sB K F t J v
   return .next
  | none=>EX
 | .If t b o _,J=>do
  if<-F.tr t J then F.exs b J else F.exs o J
 | .While t b [] _,J=>F.wh t b J
 | .For t i b [] _,J=>do
  BX (EB i)
  let x<-F.ev i J
  let it<-oE x
  F.fo t it b J
 | .Raise x c _,J=>if c.isNone=true then (match x.bind jN with
  | some q=>match lE q.1,tM q.2.1 with
   | some n,some a=>if q.2.2.1.isEmpty=true then SH K F n.1 a J else EX
   | _,_=>EX
  | none=>EX) else EX
 | .Try body (h::handlers) [] [] _,J=>tryE K F body (h::handlers) J
 | .Delete ts _,J=>match (tM ts).bind jQ with
  | some q=>do
   let ov<-F.ev q.1 J
   let iv<-F.ev q.2.1 J
   nD ov iv
   return .next
  | none=>EX
 | _,_=>EX
noncomputable def tB:List Stmt->Ev->M Flow
 | [],_=>pure .next
 | s::r,J=>do
  match<-RB K F s J with
  | .next=>tB r J
  | f=>pure f
noncomputable def whM(t:Expr)(b:List Stmt)(J:Ev):M Flow:=do
 if<-F.tr t J then
  match<-F.exs b J with
  | .next=>F.wh t b J
  | f=>pure f
 else pure .next
noncomputable def foM(t:Expr)(it:Nat)(b:List Stmt)(J:Ev):M Flow:=do
 match<-EF it with
 | none=>pure .next
 | some v=>do
  ownM t it v
  sB K F t J v
  match<-F.exs b J with
  | .next=>F.fo t it b J
  | f=>pure f
noncomputable def RD(J:Ev):List Expr->M Bool
 | []=>pure true
 | [c]=>F.tr c J
 | _=>EX
noncomputable def coM(t e:Expr)(Ag:List Expr)(it acc:Nat)(J:Ev):M Unit:=do
 match<-EF it with
 | none=>pure ()
 | some v=>do
  ownM t it v
  sB K F t J v
  let ok<-RD F J Ag
  if ok then do
   let x<-F.ev e J
   let _<-lB "list.append" [.ref acc,x]
   F.co t e Ag it acc J
  else F.co t e Ag it acc J
noncomputable def LB:List (Str×NameKind)->List (Str×Nat)->M (List (Str×Nat))
 | [],acc=>pure acc
 | (x,k)::r,acc=>if k== .cell then do
   let c<-FX (.cell none)
   LB r ((x,c)::acc)
  else LB r acc
theorem SM{x:Str}{k:NameKind}{r:List (Str×NameKind)}{acc:List (Str×Nat)}:LB ((x,k)::r) acc=if k== .cell then FX (.cell none) >>=λc=>LB r ((x,c)::acc) else LB r acc:=rfl
noncomputable def CB(J:Ev):List (Str×V)->M Unit
 | []=>pure ()
 | (x,v)::r=>do
  NB J x v
  CB J r
noncomputable def lqOf(fd:FuncData):Option (Addr×Addr×Str):=match fd.code with
 | .ref c=>cs.find? λp=>decide (p.1=c/\p.2.2=fd.qualname++".<locals>."++"<lambda>")
 | _=>none
noncomputable def SC(fd:FuncData)(args:List V)(d:Nat):M V:=match fd.body,JC K fd args with
 | .stmts body,some vs=>do
  BX (fdOk K fd)
  HX [] (do
   let cells<-LB fd.scope.names []
   CB {scope:=fd.scope,cells,d,lq:=lqOf cs fd,stm:=true} ((fd.params.args.map (·.arg)).zip vs)
   match<-F.exs body {scope:=fd.scope,cells,d,lq:=lqOf cs fd,stm:=true} with
   | .next=>pure .none
   | .ret v=>pure v)
 | _,_=>EX
noncomputable def RS(a:Addr)(args:List V)(d:Nat):M V:=match findIn K (.ref a) "__init__" with
 | some (some (.ref fi))=>match K.lookup fi with
  | some ⟨_,_,.func fd,_⟩=>do
   BX (makesIn K a && isFn K (.ref fi))
   let dx<-FX (.dict [] 0)
   let x<-FX (.inst a dx)
   match<-SC K cs F fd (.ref x::args) d with
   | .none=>pure (.ref x)
   | _=>EX
  | _=>EX
 | _=>EX
noncomputable def uJ(a d:Nat):M V:=do
 match<-CX a with
 | .lam body scope cells=>do
  BX (scope.kind== .function && !scope.isCoroutine && !scope.isGenerator && scope.names.all (λp=>p.2 != .cell))
  HX [] (F.ev body {scope,cells,d})
 | _=>EX
noncomputable def vJ(f:V)(args:List V)(d:Nat):M V:=match f with
 | .bi id=>lB id args
 | .ty n=>ZD n args
 | .glob a=>match pM a args with
  | some r=>pure r
  | none=>match K.lookup a with
   | some ⟨_,_,.func fd,_⟩=>match d with
    | d+1=>SC K cs F fd args d
    | 0=>EX
   | some ⟨_,_,.cls _,_⟩=>match d with
    | d+2=>RS K cs F a args d
    | _=>EX
   | _=>EX
 | .ref a=>match args,d with
  | [],d+1=>uJ F a d
  | _,_=>EX
 | _=>EX
noncomputable def xT:Fns where
 ev:=evM K F
 tr:=trM F
 exs:=tB K F
 wh:=whM F
 fo:=foM K F
 co:=coM K F
 call:=vJ K pM cs F
end
noncomputable def noF:Fns:=⟨λZ Z=>EX,λZ Z=>EX,λZ Z=>EX,λZ Z Z=>EX,λZ Z Z Z=>EX,λZ Z Z Z Z Z=>EX,λZ Z Z=>EX⟩
noncomputable def fns(K:Frag)(pM:Addr->List V->Option V)(cs:List (Addr×Addr×Str)):Nat->Fns
 | 0=>noF
 | n+1=>xT K pM cs (fns K pM cs n)
end
variable {Q:V->S->Prop} {v:V} {vs:List V} {es:List (V×V)} {Y:List Addr} {xs:List Value} {A:Around} {w:World} {env:Env} {K:Frag} {prog:Program} {n:Nat} {x:Str} {p:Pos} {k:Nat} {d:Nat} {α:Type} {a:Addr} {E:Value->Shared->Prop} {h:List O} {o:O} {b:Array UInt8} {tk:Tok}
section
def VR(Y:List Addr):V->Value->Prop
 | .none,x=>x= .none
 | .bool b,x=>x= .bool b
 | .int i,x=>∃ t,x= .int i t
 | .str s,x=>∃ t,x= .str s t
 | .bytes b,x=>∃ t,x= .bytes b t
 | .ref n,x=>∃ a,Y[n]? =some a/\x= .ref a
 | .glob a,x=>x= .ref a
 | .bi i,x=>x= .builtin i
 | .ty n,x=>x= .type n
noncomputable def VsR(Y:List Addr):List V->List Value->Prop
 | [],[]=>True
 | v::vs,x::xs=>VR Y v x/\VsR Y vs xs
 | _,_=>False
def OptR(Y:List Addr):Option V->Option Value->Prop
 | none,none=>True
 | some v,some x=>VR Y v x
 | _,_=>False
def KeyR(w:World):V->Value->Int->Prop
 | .int i,x,h=>(∃ t,x= .int i t)/\h=hashInt i
 | .str s,x,h=>(∃ t,x= .str s t)/\h=hashStr w s
 | _,_,_=>False
noncomputable def EsR(w:World)(Y:List Addr):List (V×V)->List DictEntry->Prop
 | [],[]=>True
 | (k,v)::es,e::xs=>KeyR w k e.key e.hash/\VR Y v e.val/\EsR w Y es xs
 | _,_=>False
def Ext(Y Y':List Addr):Prop:=∃ t,Y'=Y++t
theorem Ext.refl(Y:List Addr):Ext Y Y:=⟨[],(eW Y).symm⟩
theorem Ext.trans{a b c:List Addr}(x:Ext a b)(y:Ext b c):Ext a c:=by
 obtain x11|t|rfl:=x;obtain x11|u|rfl:=y;exact ⟨t++u,by rw [eT]⟩
theorem Ext.one(Y:List Addr)(a:Addr):Ext Y (Y++ [a]):=⟨[a],rfl⟩
theorem Ext.get{Y':List Addr}(x:Ext Y Y')(e:Y[n]? =some a):Y'[n]? =some a:=by
 obtain x11|t|rfl:=x;rw [dC (aQ.mp e).1];exact e
theorem VR.mono{Y':List Addr}(x:Ext Y Y'){y:Value}(h:VR Y v y):VR Y' v y:=by
 induction v <;> try exact h
 obtain x12|a|e|r:=h;exact i12 a (x.get e) r
theorem VsR.ind{p:List V->List Value->Prop}(h0:p [] [])(h1:∀ v vs x xs,VR Y v x->VsR Y vs xs->p vs xs->p (v::vs) (x::xs)):∀ {vs:List V} {xs:List Value},VsR Y vs xs->p vs xs:=λ{vs}=>by
 induction vs with
 | nil=>
  intro ys h
  induction ys using lCq with
  | nil=>exact h0
  | cons=>exact h.elim
 | cons v vs ih=>
  intro ys h
  induction ys using lCq with
  | nil=>exact h.elim
  | cons=>exact h1 _ _ _ _ h.1 h.2 (ih h.2)
theorem EsR.ind{p:List (V×V)->List DictEntry->Prop}(h0:p [] [])(h1:∀ e es x xs,KeyR w e.1 x.key x.hash->VR Y e.2 x.val->EsR w Y es xs->p es xs->p (e::es) (x::xs)):∀ {es:List (V×V)} {xs:List DictEntry},EsR w Y es xs->p es xs:=λ{es}=>by
 induction es with
 | nil=>
  intro ys h
  induction ys using lCq with
  | nil=>exact h0
  | cons=>exact h.elim
 | cons v vs ih=>
  intro ys h
  induction ys using lCq with
  | nil=>exact h.elim
  | cons=>exact h1 _ _ _ _ h.1 h.2.1 h.2.2 (ih h.2.2)
theorem VsR.mono{Y':List Addr}(x:Ext Y Y'){ys:List Value}(h:VsR Y vs ys):VsR Y' vs ys:=
 VsR.ind (p:=VsR Y') trivial (λZ Z Z Z a Z ih=>⟨a.mono x,ih⟩) h
theorem OptR.mono{Y':List Addr}(x:Ext Y Y'):∀ {v:Option V} {y:Option Value},OptR Y v y->OptR Y' v y
 | none,none,_=>trivial
 | some _,some _,h=>VR.mono x h
 | none,some _,h=>h.elim
 | some _,none,h=>h.elim
theorem EsR.mono{Y':List Addr}(x:Ext Y Y'){ys:List DictEntry}(h:EsR w Y es ys):EsR w Y' es ys:=
 EsR.ind (p:=EsR w Y') trivial (λZ Z Z Z a b Z ih=>i03 a (b.mono x) ih) h
theorem VsR.length{ys:List Value}(h:VsR Y vs ys):vs.length=ys.length:=
 VsR.ind (p:=λvs ys=>vs.length=ys.length) rfl (λZ Z Z Z Z Z ih=>aU (· +1) ih) h
theorem EsR.length{vs:List (V×V)}{ys:List DictEntry}(h:EsR w Y vs ys):vs.length=ys.length:=
 EsR.ind (p:=λvs ys=>vs.length=ys.length) rfl (λZ Z Z Z Z Z Z ih=>aU (· +1) ih) h
theorem VsR.get:∀ {vs:List V} {ys:List Value},VsR Y vs ys->∀ {i:Nat} {v:V},vs[i]? =some v->∃ y,ys[i]? =some y/\VR Y v y:=λ{vs}=>by
 induction vs with
 | nil=>exact λ{ys} h {i v} e=>nos e
 | cons u vs ih=>
  intro ys h i v e
  induction ys using lCq with
  | nil=>exact h.elim
  | cons y ys=>induction i using nCq with
   | zero=>exact i12 y rfl (Option.some.inj e▸h.1)
   | succ i=>exact ih h.2 (i:=i) e
theorem VsR.append{ys:List Value}{us:List V}{zs:List Value}(h:VsR Y vs ys)(k:VsR Y us zs):VsR Y (vs++us) (ys++zs):=
 VsR.ind (p:=λvs ys=>VsR Y (vs++us) (ys++zs)) k (λZ Z Z Z a Z ih=>⟨a,ih⟩) h
noncomputable abbrev JI(qual:Str)(body:Expr)(scope:Scope)(clos:List (Str×Addr))(pm:Value)(c:Addr)(ct:Value):Obj:=
 kla_obj "<lambda>" qual ⟨[],[],none,[],[],none,[]⟩ body scope clos pm c ct
noncomputable def CellsR(Y:List Addr):List (Str×Nat)->List (Str×Addr)->Prop
 | [],[]=>True
 | (x,n)::r,(y,a)::q=>x=y/\Y[n]? =some a/\CellsR Y r q
 | _,_=>False
theorem CellsR.mono{Y':List Addr}(x:Ext Y Y'):∀ {c:List (Str×Nat)} {r:List (Str×Addr)},CellsR Y c r->CellsR Y' c r:=λ{c}=>by
 induction c with
 | nil=>
  intro r h
  induction r using lCq with
  | nil=>exact trivial
  | cons=>exact h.elim
 | cons q c ih=>
  intro r h
  induction r using lCq with
  | nil=>exact h.elim
  | cons=>exact i03 h.1 (x.get h.2.1) (ih h.2.2)
theorem CellsR.look:∀ {c:List (Str×Nat)} {r:List (Str×Addr)},CellsR Y c r->∀ {x:Str} {n:Nat},c.lookup x=some n->∃ a,r.lookup x=some a/\Y[n]? =some a:=λ{c}=>by
 induction c with
 | nil=>exact λ{r} h {x n} e=>nos e
 | cons q c ih=>
  intro r h x n e
  induction r using lCq with
  | nil=>exact h.elim
  | cons p r=>
   obtain ⟨y,k⟩:=q;obtain ⟨y',a⟩:=p;obtain x03|e1|b|h:=h;rw [bQ] at e ⊢;rw [<-(e1:y=y')]
   revert e
   cases x==y with
   | true=>exact λe=>i12 a rfl (Option.some.inj e▸b)
   | false=>exact λe=>ih h e
def OwnR(Y:List Addr):Option Nat->Value->Prop
 | none,v=>v= .none
 | some k,v=>∃ b,Y[k]? =some b/\v=rawInt (b:Nat)
theorem OwnR.mono{Y':List Addr}(x:Ext Y Y'){o:Option Nat}{v:Value}(h:OwnR Y o v):OwnR Y' o v:=by
 induction o with
 | none=>exact h
 | some k=>obtain x12|b|e|z:=h;exact i12 b (x.get e) z
def OR(w:World)(Y:List Addr):O->Obj->Prop
 | .list vs,ob=>(ob.cls= .type "list"/\ob.dict=none/\ob.slots= #[])/\∃ xs n,ob.data= .seq (List.toArray xs) n/\VsR Y vs xs
 | .tup vs,ob=>ob.cls= .type "tuple"/\∃ xs n,ob.data= .seq (List.toArray xs) n/\VsR Y vs xs
 | .dict es n,ob=>ob.ExactDict/\(∃ xs,ob.data= .dict (List.toArray xs) n/\EsR w Y es xs)/\(es.map (·.1)).Nodup
 | .inst C d,ob=>∃ dx,Y[d]? =some dx/\ob=instObj C dx
 | .cell v,ob=>∃ x,ob.data= .cell x/\OptR Y v x
 | .lam body scope cells,ob=>∃ qual clos pm c ct,ob=JI qual body scope clos pm c ct/\CellsR Y cells clos
 | .rng a b c,ob=>∃ t u v,ob={cls:= .type "range",dict:=none,data:= .fields #[.int a t,.int b u,.int c v],slots:=#[]}
 | .itL l i,ob=>ob.cls= .type "list_iterator"/\∃ la,Y[l]? =some la/\ob.data= .fields #[.ref la,.int i 0]
 | .itT l i,ob=>ob.cls= .type "tuple_iterator"/\∃ la,Y[l]? =some la/\ob.data= .fields #[.ref la,.int i 0]
 | .itD d i n ep,ob=>ob.cls= .type "dict_keyiterator"/\∃ da,Y[d]? =some da/\ob.data= .fields #[.ref da,.int i 0,.int n 0,.int ep 0]
 | .itR x l st,ob=>ob={cls:= .type "range_iterator",dict:=none,data:= .fields #[rawInt x,rawInt l,rawInt st],slots:=#[]}
 | .itS s i,ob=>∃ t,ob.cls= .type (strIterType s)/\ob.data= .fields #[.str s t,.int i 0]
 | .itB b i,ob=>ob.cls= .type "bytes_iterator"/\∃ t,ob.data= .fields #[.bytes b t,.int i 0]
 | .itE n i o,ob=>∃ a x own,Y[n]? =some a/\OwnR Y o own/\ob={cls:= .type "enumerate",dict:=none,data:= .fields #[own,.bool false,.ref a,rawInt i,.none,x],slots:=#[]}
 | .dead,_=>True
theorem OR.mono{Y':List Addr}(x:Ext Y Y'){ob:Obj}(h:OR w Y o ob):OR w Y' o ob:=by
 induction o with
 | list vs=>obtain x02|a|Dy:=h;obtain x22|xs|n|b|c:=Dy;exact ⟨a,xs,n,b,c.mono x⟩
 | tup vs=>obtain x02|a|Dx:=h;obtain x22|xs|n|b|c:=Dx;exact ⟨a,xs,n,b,c.mono x⟩
 | dict es n=>obtain x03|a|Dw|d:=h;obtain x12|xs|b|c:=Dw;exact i03 a (i12 xs b (c.mono x)) d
 | inst C d=>obtain x12|dx|a|b:=h;exact i12 dx (x.get a) b
 | cell v=>obtain x12|y|a|b:=h;exact i12 y a (b.mono x)
 | lam body scope cells=>obtain x51|q|cl|pm|c|ct|Dv:=h;obtain x02|a|b:=Dv;exact i52 q cl pm c ct a (b.mono x)
 | rng=>exact h
 | itL=>obtain x02|a|Du:=h;obtain x12|la|b|c:=Du;exact ⟨a,la,x.get b,c⟩
 | itT=>obtain x02|a|Dt:=h;obtain x12|la|b|c:=Dt;exact ⟨a,la,x.get b,c⟩
 | itD=>obtain x02|a|Ds:=h;obtain x12|la|b|c:=Ds;exact ⟨a,la,x.get b,c⟩
 | itR=>exact h
 | itS=>exact h
 | itB=>exact h
 | itE=>obtain x33|a|y|own|e|o|z:=h;exact i33 a y own (x.get e) (o.mono x) z
 | dead=>trivial
def Live(s:S)(n:Nat):Prop:=∃ o,s.h[n]? =some o/\o≠ .dead
def LocR(Y:List Addr)(l:List (Str×V))(m:Str->Option Value):Prop:=∀ x v,l.lookup x=some v->∃ y,m x=some y/\VR Y v y
theorem LocR.mono{Y':List Addr}(x:Ext Y Y'){l:List (Str×V)}{m:Str->Option Value}(h:LocR Y l m):LocR Y' l m:=λy v e=>
 by obtain x12|z|a|b:=h y v e;exact i12 z a (b.mono x)
noncomputable abbrev Kept:=List (Addr×(Str->Option Value))
structure Ground where
 w:World
 base:Heap
 cs:List (Addr×Addr×Str)
 os:OsState
def nI(xs:List (Addr×Obj))(c:Addr)(q:Str):Prop:=∃ oc vs t,(c,oc)∈xs/\oc.data= .fields vs/\vs[1]? =some (.str q t)
def IU(cs:List (Addr×Addr×Str))(xs:List (Addr×Obj)):Prop:=
 ∀ q∈cs,∃ ps,(q.2.1,tabObj ps)∈xs/\TriplesOk ps.toList/\∀ pos cv,codeAmong pos ps.toList=some cv->∃ c',cv= .ref c'/\nI xs c' q.2.2
abbrev Ground.tabs(G:Ground):List (Addr×Obj)->Prop:=IU G.cs
def OV(xs:List (Addr×Obj))(ob:Obj):Prop:=∀ qual body scope clos pm c ct,ob=JI qual body scope clos pm c ct->nI xs c qual
def CG(Y:List Addr)(h:List O)(H:Heap)(xs:List (Addr×Obj)):Prop:=
 ∀ (n:Nat) (body:Expr) (scope:Scope) (cells:List (Str×Nat)) (a:Addr) (ob:Obj),h[n]? =some (O.lam body scope cells)->Y[n]? =some a->H.get? a=some ob->OV xs ob
structure St(G:Ground)(C:Addr)(kp:Kept)(Y:List Addr)(s:S)(r:Shared):Prop where
 base:∀ b o,G.base.get? b=some o->r.heap.get? b=some o
 ns:∃ m,r.heap.Ns C m/\LocR Y s.l m
 kept:∀ q∈kp,r.heap.Ns q.1 q.2/\q.1≠C/\sysModules < q.1
 low:sysModules < C/\∀ (n:Nat) (a:Addr),Y[n]? =some a->a≠sysModules
 len:Y.length=s.h.length
 objs:∀ (n:Nat) (o:O) (a:Addr),s.h[n]? =some o->o≠ .dead->Y[n]? =some a->(∃ ob,r.heap.get? a=some ob/\OR G.w Y o ob)/\a≠C/\(∀ q∈kp,q.1≠a)/\G.base.get? a=none
 inj:∀ (n k:Nat) (a:Addr),Live s n->Live s k->Y[n]? =some a->Y[k]? =some a->n=k
 fresh:G.base.get? C=none/\∀ q∈kp,G.base.get? q.1=none
 more:∃ xs,G.tabs xs/\(∀ q∈xs,r.heap.get? q.1=some q.2/\q.1≠C/\(∀ p∈kp,p.1≠q.1)/\G.base.get? q.1=none/\∀ n,Live s n->Y[n]? ≠some q.1)/\CG Y s.h r.heap xs
 gens:r.gens= #[]
 os:r.os=G.os
theorem Heap.fresh_none{h:Heap}:h.get? h.objs.size=none:=by
 cases e:h.get? h.objs.size with
 | none=>rfl
 | some o=>exact aS (cP e) (dO _)
section
variable {G:Ground} {C:Addr} {kp:Kept} {s:S} {r:Shared}
theorem St.at(x:St G C kp Y s r)(e:s.h[n]? =some o)(hd:o≠ .dead)(ea:Y[n]? =some a):∃ ob,r.heap.get? a=some ob/\OR G.w Y o ob:=(x.objs n o a e hd ea).1
theorem St.lams(x:St G C kp Y s r){xs:List (Addr×Obj)}{h':Heap}(c:CG Y s.h r.heap xs)(k:∀ a ob,a≠C->r.heap.get? a=some ob->h'.get? a=some ob):CG Y s.h h' xs:=λn body scope cells a ob e ea g=>by
 obtain x03|Dr|aC|u_:=x.objs n (O.lam body scope cells) a e (ndd rfl) ea;obtain x12|ob0|p|u_:=Dr;rw [k a ob0 aC p] at g;cases g;exact c n body scope cells a _ e ea p
theorem St.keeps(x:St G C kp Y s r){h':Heap}{d:Drawn}(k:∀ b o,r.heap.get? b=some o->h'.get? b=some o):St G C kp Y s {r with heap:=h',toks:=tk,drawn:=d} where
 base:=λb o e=>k b o (x.base b o e)
 ns:=by obtain x12|m|a|b:=x.ns;exact i12 m (a.keeps k) b
 kept:=λq hq=>⟨(x.kept q hq).1.keeps k,(x.kept q hq).2⟩
 low:=x.low
 len:=x.len
 objs:=λn o a e hd ea=>by obtain x02|Dq|t:=x.objs n o a e hd ea;obtain x12|ob|p|q:=Dq;exact ⟨i12 ob (k _ _ p) q,t⟩
 inj:=x.inj
 fresh:=x.fresh
 more:=by obtain x13|xs|a|b|c:=x.more;exact i13 xs a (λq hq=>⟨k _ _ (b q hq).1,(b q hq).2⟩) (x.lams c λa ob Z=>k a ob)
 gens:=x.gens
 os:=x.os
theorem St.toks(x:St G C kp Y s r):St G C kp Y s {r with toks:=tk}:=x.keeps (h':=r.heap) (d:=r.drawn) λZ Z e=>e
theorem St.ns_some(x:St G C kp Y s r):∃ o,r.heap.get? C=some o:=by obtain x12|u_|Dp|u_:=x.ns;obtain x32|o|u_|u_|e|u_:=Dp;exact ⟨o,e⟩
theorem St.big(x:St G C kp Y s r):sysModules < r.heap.objs.size:=by
 obtain x11|o|e:=x.ns_some;exact bB x.low.1 (cP e)
theorem St.ne_mods(x:St G C kp Y s r)(e:Y[n]? =some a):(a==sysModules)=false:=by simpa using x.low.2 n a e
theorem St.kept_some(x:St G C kp Y s r){q:Addr×(Str->Option Value)}(hq:q∈kp):∃ o,r.heap.get? q.1=some o:=by obtain x02|Do|u_:=x.kept q hq;obtain x32|o|u_|u_|e|u_:=Do;exact ⟨o,e⟩
theorem St.allocCore(x:St G C kp Y s r){h':Heap}{ob:Obj}(y:St G C kp Y s {r with heap:=h',toks:=tk})(hn:r.heap.get? a=none)(ha:h'.get? a=some ob)
  (hr:OR G.w (Y++ [a]) o ob) (h0:a≠sysModules)
  (hm:∃ xs,G.tabs xs/\(∀ q∈xs,r.heap.get? q.1=some q.2/\h'.get? q.1=some q.2/\q.1≠C/\(∀ p∈kp,p.1≠q.1)/\G.base.get? q.1=none/\∀ n,Live s n->Y[n]? ≠some q.1)/\CG Y s.h h' xs/\((∃ b sc ce,o=O.lam b sc ce)->OV xs ob)):St G C kp (Y++ [a]) {s with h:=s.h++ [o]} {r with heap:=h',toks:=tk}:=by
 have E:=Ext.one Y a;have aC:a≠C:=λe=>by obtain x11|o|q:=x.ns_some;rw [<-e,hn] at q;cases q
 have aK:∀ q∈kp,q.1≠a:=λq hq e=>by obtain x11|o|z:=x.kept_some hq;rw [e,hn] at z;cases z
 have aB:G.base.get? a=none:=by
  cases e:G.base.get? a with
  | none=>rfl
  | some o=>have:=x.base a o e;rw [hn] at this;cases this
 have old:∀ {n:Nat} {o':O},(s.h++ [o])[n]? =some o'->(n < s.h.length/\s.h[n]? =some o')\/(n=s.h.length/\o'=o):=by
  intro n o' e;rcases Nat.lt_trichotomy n s.h.length with h | h | h
  ·exact .inl ⟨h,by rw [dC h] at e;exact e⟩
  ·subst h;rw [cX (aY _)] at e;simp at e;exact .inr ⟨rfl,e.symm⟩
  ·rw [cX (cC h)] at e;have:=Nat.sub_ne_zero_of_lt h;cases z:n - s.h.length with
   | zero=>exact aS z this
   | succ k=>rw [z] at e;simp at e
 have phi:∀ {n:Nat} {b:Addr},n < s.h.length->(Y++ [a])[n]? =some b->Y[n]? =some b:=λhl e=>by
  rw [dC (by rw [x.len];exact hl)] at e;exact e
 have phiN:∀ {b:Addr},(Y++ [a])[s.h.length]? =some b->b=a:=λe=>by
  rw [cX (by rw [x.len];exact aY _),x.len] at e;simpa using e.symm
 have live:∀ {n:Nat},Live {s with h:=s.h++ [o]} n->(n < s.h.length/\Live s n)\/n=s.h.length:=λ⟨o',e,hd⟩=>by
  rcases old e with ⟨h,e⟩ | ⟨h,_⟩
  ·exact .inl ⟨h,o',e,hd⟩
  ·exact .inr h
 have liveA:∀ {n:Nat} {b:Addr},Live s n->Y[n]? =some b->b≠a:=λ⟨o',e,hd⟩ eb z=>by
  obtain x12|ob'|q|u_:=x.at e hd eb;rw [z,hn] at q;cases q
 refine {base:=y.base,ns:=let ⟨m,a,b⟩:=y.ns;⟨m,a,b.mono E⟩,kept:=y.kept,low:=⟨x.low.1,λn b e=>?_⟩,len:=by simp [x.len],objs:=?_,inj:=?_,fresh:=x.fresh,more:=?_,gens:=x.gens,os:=x.os}
 ·rcases Nat.lt_trichotomy n s.h.length with h | h | h
  ·exact x.low.2 n b (phi h e)
  ·subst h;rw [phiN e];exact h0
  ·rw [cX (by rw [x.len];exact cC h),x.len] at e;cases z:n - s.h.length with
   | zero=>exact aS z (Nat.sub_ne_zero_of_lt h)
   | succ k=>rw [z] at e;simp at e
 ·intro n o' b e hd eb;rcases old e with ⟨hl,e⟩ | ⟨rfl,rfl⟩
  ·obtain x02|Dn|t:=y.objs n o' b e hd (phi hl eb);obtain x12|ob'|p|q:=Dn;exact ⟨i12 ob' p (q.mono E),t⟩
  ·rw [phiN eb];exact i04 (i12 ob ha hr) aC aK aB
 ·intro n k' b ln lk en ek;rcases live ln with ⟨hn',ln⟩ | rfl <;> rcases live lk with ⟨hk',lk⟩ | rfl
  ·exact x.inj n k' b ln lk (phi hn' en) (phi hk' ek)
  ·exact aS (phiN ek) (liveA ln (phi hn' en))
  ·exact aS (phiN en) (liveA lk (phi hk' ek))
  ·rfl
 ·obtain x14|xs|t|q|lm|nl:=hm;refine i13 xs t (λp hp=>?_) λn body scope cells b ob' e eb g=>?_
  ·obtain x06|q1|q1'|q2|q3|q4|q5:=q p hp;refine i05 q1' q2 q3 q4 λn ln e=>?_;rcases live ln with ⟨hl,ln⟩ | rfl
   ·exact q5 n ln (phi hl e)
   ·have:=phiN e;rw [this,hn] at q1;cases q1
  ·rcases old e with ⟨hlt,e'⟩ | ⟨rfl,e'⟩
   ·exact lm n body scope cells b ob' e' (phi hlt eb) g
   ·rw [phiN eb] at g;have:ob'=ob:=Option.some.inj (g.symm.trans ha);subst this;exact nl (i31 _ _ _ e'.symm)
theorem St.allocOf(x:St G C kp Y s r){h':Heap}{ob:Obj}(y:St G C kp Y s {r with heap:=h',toks:=tk})(k:∀ b o,b≠C->r.heap.get? b=some o->h'.get? b=some o)(hn:r.heap.get? a=none)(ha:h'.get? a=some ob)
  (hr:OR G.w (Y++ [a]) o ob) (h0:a≠sysModules) (hl:∀ b sc ce,o≠O.lam b sc ce:=by exact nl rfl):St G C kp (Y++ [a]) {s with h:=s.h++ [o]} {r with heap:=h',toks:=tk}:=
 x.allocCore y hn ha hr h0 (by obtain x13|xs|t|q|lm:=x.more;exact ⟨xs,t,λp hp=>by obtain x02|q1|q2:=q p hp;exact ⟨q1,k _ _ q2.1 q1,q2⟩,x.lams lm k,λ⟨_,_,_,z⟩=>aS z (hl _ _ _)⟩)
theorem St.alloc(x:St G C kp Y s r){h':Heap}{ob:Obj}(k:∀ b o,r.heap.get? b=some o->h'.get? b=some o)(hn:r.heap.get? a=none)(ha:h'.get? a=some ob)
  (hr:OR G.w (Y++ [a]) o ob) (h0:a≠sysModules) (hl:∀ b sc ce,o≠O.lam b sc ce:=by exact nl rfl):St G C kp (Y++ [a]) {s with h:=s.h++ [o]} {r with heap:=h',toks:=tk}:=
 x.allocOf (x.keeps (tk:=tk) (d:=r.drawn) k) (λb o Z=>k b o) hn ha hr h0 hl
end
end
section
theorem XE(x:Str)(v:V):∀ (l:List (Str×V)) (y:Str),(putA x v l).lookup y=if y=x then some v else l.lookup y:=by
 intro l
 induction l with
 | nil=>
  intro y;rw [yU];simp only [List.lookup_cons,List.lookup_nil];by_cases h:y=x
  ·simp [h]
  ·have:(y==x)=false:=by simpa using h
   rw [this,aJ h]
 | cons z0 r ih=>
  intro y;obtain ⟨z,u⟩:=z0;rw [jR];by_cases h:z=x
  ·subst h;rw [aN rfl];simp only [List.lookup_cons];by_cases q:y=z
   ·simp [q]
   ·have:(y==z)=false:=by simpa using q
    rw [this,aJ q]
  ·rw [aJ h];simp only [List.lookup_cons];by_cases q:y=z
   ·subst q;simp [h]
   ·have:(y==z)=false:=by simpa using q
    rw [this];exact ih y
section
variable {G:Ground} {C:Addr} {kp:Kept} {s:S} {r:Shared}
theorem St.upd(x:St G C kp Y s r){o':O}{h':Heap}(e:s.h[n]? =some o)(hd:o≠ .dead)(ea:Y[n]? =some a)
  (k:∀ b ob,b≠a->r.heap.get? b=some ob->h'.get? b=some ob) (ha:o'= .dead\/∃ ob,h'.get? a=some ob/\OR G.w Y o' ob) (hl:∀ b sc ce,o'≠ .lam b sc ce:=by exact nl rfl):
  St G C kp Y {s with h:=s.h.set n o'} {r with heap:=h',toks:=tk}:=by
 obtain x04|u_|aC|aK|aB:=x.objs n o a e hd ea;have hl':=(aQ.mp e).1;have live:∀ {j:Nat},Live {s with h:=s.h.set n o'} j->Live s j:=λ{j} ⟨oj,ej,dj⟩=>by
  by_cases hj:n=j
  ·subst hj;exact i12 o e hd
  ·have ej':(s.h.set n o')[j]? =some oj:=ej;rw [fF hj] at ej';exact i12 oj ej' dj
 refine {base:=λb ob eb=>k b ob (λz=>by rw [z,aB] at eb;cases eb) (x.base b ob eb),ns:=?_,kept:=?_,low:=x.low,len:=by simpa using x.len,objs:=?_,inj:=λi j b li lj=>x.inj i j b (live li) (live lj),fresh:=x.fresh,more:=?_,gens:=x.gens,os:=x.os}
 ·obtain x12|m|hm|hlo:=x.ns;exact i12 m (hm.extBut (b:=a) (λb ob hb eb=>k b ob hb eb) (Ne.symm aC)) hlo
 ·intro q hq;exact ⟨(x.kept q hq).1.extBut (b:=a) (λb ob hb eb=>k b ob hb eb) (aK q hq),(x.kept q hq).2⟩
 ·intro j oj b ej dj eb;have ej':(s.h.set n o')[j]? =some oj:=ej;by_cases hj:n=j
  ·subst hj;rw [fO hl'] at ej';cases ej';rw [ea] at eb;cases eb;rcases ha with ha | ha
   ·exact aS ha dj
   ·exact i04 ha aC aK aB
  ·rw [fF hj] at ej';obtain x02|Dq|t:=x.objs j oj b ej' dj eb;obtain x12|ob|p|q:=Dq;exact ⟨i12 ob (k b ob (λz=>hj (x.inj n j a (i12 o e hd) (i12 oj ej' dj) ea (z▸eb))) p) q,t⟩
 ·obtain x13|xs|t|q|lm:=x.more;refine i13 xs t (λp hp=>?_) λj body scope cells b ob ej eb g=>?_
  ·obtain x05|q1|q2|q3|q4|q5:=q p hp;exact i05 (k _ _ (λz=>q5 n (i12 o e hd) (z▸ea)) q1) q2 q3 q4 λj lj=>q5 j (live lj)
  ·have ej':(s.h.set n o')[j]? =some (.lam body scope cells):=ej;by_cases hj:n=j
   ·subst hj;rw [fO hl'] at ej';cases ej';exact aS rfl (hl _ _ _)
   ·rw [fF hj] at ej';obtain x02|Dp|u_:=x.objs j _ b ej' (ndd rfl) eb;obtain x12|ob0|p0|u_:=Dp;rw [k b ob0 (λz=>hj (x.inj n j a ⟨o,e,hd⟩ ⟨_,ej',by exact ndd rfl⟩ ea (z▸eb))) p0] at g;cases g;exact lm j body scope cells b _ ej' eb p0
theorem St.upd2(x:St G C kp Y s r){n1 n2:Nat}{o1 o1' o2 o2':O}{a1 a2:Addr}{ob:Obj}{h':Heap}(e1:s.h[n1]? =some o1)(d1:o1≠ .dead)(f1:Y[n1]? =some a1)(e2:s.h[n2]? =some o2)(d2:o2≠ .dead)(f2:Y[n2]? =some a2)(hne:n1≠n2)
  (k:∀ b ob,b≠a1->b≠a2->r.heap.get? b=some ob->h'.get? b=some ob) (g1:∃ ob,h'.get? a1=some ob/\OR G.w (Y++ [a]) o1' ob) (g2:∃ ob,h'.get? a2=some ob/\OR G.w (Y++ [a]) o2' ob) (hn:r.heap.get? a=none) (ha:h'.get? a=some ob) (hr:OR G.w (Y++ [a]) o ob) (h0:a≠sysModules)
  (ez:a=r.heap.objs.size) (l1:∀ b sc ce,o1'≠ .lam b sc ce) (l2:∀ b sc ce,o2'≠ .lam b sc ce) (l3:∀ b sc ce,o≠ .lam b sc ce):
  St G C kp (Y++ [a]) {s with h:=(s.h.set n1 o1').set n2 o2'++ [o]} {r with heap:=h',toks:=tk}:=by
 subst ez;obtain x12|Aj|q1|r1:=g1;obtain x12|Bm|q2|r2:=g2;obtain x12|p2|gp|u_:=x.at e2 d2 f2;have hl1:=(aQ.mp e1).1;have hl2:=(aQ.mp e2).1;have E:=Ext.one Y r.heap.objs.size;have s1:=x.alloc (tk:=tk) (h':=r.heap.push ob) (λb o e=>aM _ e) hn (bC _ (fC.mp ha).2) hr h0 l3;have s2:=s1.upd (tk:=tk) (h':=(r.heap.push ob).update a2 λZ=>Bm) ((dC hl2).trans e2) d2 (E.get f2) (λb ob' hb e=>(gK _ _ _ _ hb).trans e) (.inr (i12 Bm (cL _ (aM _ gp) (fC.mp q2).2) r2)) l2;have s3:=s2.upd (tk:=tk) (h':=h') ((fF (Ne.symm hne)).trans ((dC hl1).trans e1)) d1 (E.get f1) (λb ob' hb e=>?_) (.inr (i12 Aj q1 r1)) l1
 ·have el:((s.h++ [o]).set n2 o2').set n1 o1'=(s.h.set n1 o1').set n2 o2'++ [o]:=by
   rw [List.set_comm _ _ (Ne.symm hne),List.set_append_left _ _ hl1,List.set_append_left _ _ (by rw [gR];exact hl2)]
  rw [<-el];exact s3
 ·by_cases h2:b=a2
  ·subst h2;rw [cL _ (aM _ gp) (fC.mp q2).2] at e;cases e;exact q2
  ·have e:(r.heap.push ob).get? b=some ob':=(gK _ _ _ _ h2).symm.trans e;by_cases h3:b=r.heap.objs.size
   ·subst h3;rw [bC _ (fC.mp ha).2] at e;cases e;exact ha
   ·obtain x02|z1|z2:=fC.mp e;refine k b ob' hb h2 (fC.mpr ⟨?_,z2⟩);exact (Array.getElem?_push.symm.trans z1:_=_) |> λz=>by rwa [aJ h3] at z
theorem St.loc(x:St G C kp Y s r){h':Heap}{y:Str}{u:Value}(hv:VR Y v u)(hs:Heap.ExtBut C r.heap h'){m:Str->Option Value}(hm:r.heap.Ns C m)
  (hn:h'.Ns C (λz=>if z=y then some u else m z)):St G C kp Y {s with l:=putA y v s.l} {r with heap:=h',toks:=tk}:=by
 obtain x12|m₀|hm₀|hl:=x.ns;have agree:=hm.agree hm₀;refine {base:=λb ob eb=>hs b ob (λz=>by rw [z,x.fresh.1] at eb;cases eb) (x.base b ob eb),ns:=i12 _ hn λz w e=>?_,kept:=λq hq=>⟨(x.kept q hq).1.extBut hs (x.kept q hq).2.1,(x.kept q hq).2⟩,low:=x.low,len:=x.len,objs:=?_,inj:=x.inj,fresh:=x.fresh,more:=?_,gens:=x.gens,os:=x.os}
 ·rw [XE] at e;by_cases hz:z=y
  ·rw [aN hz] at e ⊢;cases e;exact i12 u rfl hv
  ·rw [aJ hz] at e ⊢;obtain x12|t|ht|hr:=hl z w e;exact i12 t ((agree z).trans ht) hr
 ·intro n o a e hd ea;obtain x02|Do|t:=x.objs n o a e hd ea;obtain x12|ob|p|q:=Do;exact ⟨i12 ob (hs a ob t.1 p) q,t⟩
 ·obtain x13|xs|t|q|lm:=x.more;exact i13 xs t (λp hp=>⟨hs _ _ (q p hp).2.1 (q p hp).1,(q p hp).2⟩) (x.lams lm λa ob h=>hs a ob h)
theorem St.enter(x:St G C kp Y s r){h':Heap}{L:Addr}{m m₁:Str->Option Value}(hm:r.heap.Ns C m)(k:∀ b o,r.heap.get? b=some o->h'.get? b=some o)(hL:r.heap.get? L=none)(hn:h'.Ns L m₁)(Dh:sysModules < L)(l:List (Str×V))(hl:LocR Y l m₁):
  St G L ((C,m)::kp) Y {s with l:=l} {r with heap:=h',toks:=tk}:=by
 have y:=x.keeps (tk:=tk) (d:=r.drawn) k;have ne:∀ {b:Addr} {o:Obj},r.heap.get? b=some o->b≠L:=λe z=>by rw [z,hL] at e;cases e
 obtain x11|oC|eC:=x.ns_some;have bL:G.base.get? L=none:=by
  cases e:G.base.get? L with
  | none=>rfl
  | some o=>exact aS rfl (ne (x.base _ _ e))
 refine {base:=y.base,ns:=i12 m₁ hn hl,kept:=?_,low:=⟨Dh,x.low.2⟩,len:=x.len,objs:=?_,inj:=x.inj,fresh:=⟨bL,?_⟩,more:=?_,gens:=x.gens,os:=x.os}
 ·intro q hq;rcases aZ.mp hq with rfl | hq
  ·exact i03 (hm.keeps k) (ne eC) x.low.1
  ·obtain x11|o|e:=x.kept_some hq;exact i03 (y.kept q hq).1 (ne e) (x.kept q hq).2.2
 ·intro n o a e hd ea;obtain x04|Dn|aC|aK|aB:=x.objs n o a e hd ea;obtain x12|ob|p|q:=Dn;refine i04 (i12 ob (k _ _ p) q) (ne p) (λq hq=>?_) aB;rcases aZ.mp hq with rfl | hq
  ·exact Ne.symm aC
  ·exact aK q hq
 ·intro q hq;rcases aZ.mp hq with rfl | hq
  ·exact x.fresh.1
  ·exact x.fresh.2 q hq
 ·obtain x13|xs|t|q|lm:=x.more;refine i13 xs t (λp hp=>?_) (x.lams lm λa ob Z=>k a ob);obtain x05|q1|q2|q3|q4|q5:=q p hp;refine i05 (k _ _ q1) (ne q1) (λz hz=>?_) q4 q5;rcases aZ.mp hz with rfl | hz
  ·exact Ne.symm q2
  ·exact q3 z hz
theorem St.leave{L:Addr}{m:Str->Option Value}{Y':List Addr}{s':S}{r':Shared}{l:List (Str×V)}(x:St G L ((C,m)::kp) Y' s' r')(hl:LocR Y' l m)(hk:∀ q∈kp,q.1≠C):St G C kp Y' {s' with l:=l} r' where
 base:=x.base
 ns:=i12 m (x.kept (C,m) (.head _)).1 hl
 kept:=λq hq=>i03 (x.kept q (.tail _ hq)).1 (hk q hq) (x.kept q (.tail _ hq)).2.2
 low:=⟨(x.kept (C,m) (.head _)).2.2,x.low.2⟩
 len:=x.len
 objs:=λn o a e hd ea=>by obtain x04|p|u_|aK|aB:=x.objs n o a e hd ea;exact i04 p (Ne.symm (aK (C,m) (.head _))) (λq hq=>aK q (.tail _ hq)) aB
 inj:=x.inj
 fresh:=⟨x.fresh.2 (C,m) (.head _),λq hq=>x.fresh.2 q (.tail _ hq)⟩
 more:=by obtain x13|xs|t|q|lm:=x.more;exact i13 xs t (λp hp=>by obtain x05|q1|q2|q3|q4|q5:=q p hp;exact i05 q1 (Ne.symm (q3 (C,m) (.head _))) (λz hz=>q3 z (.tail _ hz)) q4 q5) lm
 gens:=x.gens
 os:=x.os
end
section
variable {β:Type}
theorem nA{m:M α}{f:α->M β}{s s₁:S}{a:α}(h:m s=some (.ok a,s₁)):(m >>=f) s=f a s₁:=by
 show M.bind m f s=_;unfold M.bind;rw [h]
theorem EA{m:M α}{f:α->M β}{s s₁:S}{c:Addr}(h:m s=some (.exc c,s₁)):(m >>=f) s=some (.exc c,s₁):=by
 show M.bind m f s=_;unfold M.bind;rw [h]
theorem QA{m:M α}{f:α->M β}{s:S}(h:m s=none):(m >>=f) s=none:=by
 show M.bind m f s=_;unfold M.bind;rw [h]
theorem CP{m:M α}{f:α->M β}{p:Prop}{s:S}{y:Res β×S}(h:(m >>=f) s=some y)(k:∀ z,m s=some z->(match z with | (.ok a,s1)=>f a s1 | (.exc c,s1)=>some (.exc c,s1))=some y->p):p:=by
 cases e:m s with
 | none=>exact nos ((QA e).symm.trans h)
 | some z=>obtain ⟨a | c,s1⟩:=z <;> exact k _ e (Eq.trans (Eq.symm (by first | exact nA e | exact EA e)) h)
theorem tD{m:M α}{f:α->M β}{s s':S}{b:β}(h:(m >>=f) s=some (.ok b,s')):∃ a s₁,m s=some (.ok a,s₁)/\f a s₁=some (.ok b,s'):=by
 refine CP h λz e h=>?_;obtain ⟨a | c,s1⟩:=z
 ·exact i22 a s1 e h
 ·cases h
theorem VG{m:M α}{f:α->M β}{s s':S}{c:Addr}(h:(m >>=f) s=some (.exc c,s')):m s=some (.exc c,s')\/∃ a s₁,m s=some (.ok a,s₁)/\f a s₁=some (.exc c,s'):=by
 refine CP h λz e h=>?_;obtain ⟨a | c,s1⟩:=z
 ·exact .inr (i22 a s1 e h)
 ·cases h;exact .inl e
theorem GD{f:O->M β}{p:Prop}{s:S}{y:Res β×S}(h:(CX n >>=f) s=some y)(k:∀ o,s.h[n]? =some o->f o s=some y->p):p:=by
 cases e:s.h[n]? with
 | none=>exact nos ((QA (by unfold CX;rw [e])).symm.trans h)
 | some o=>exact k o e ((nA (by unfold CX;rw [e])).symm.trans h)
theorem KH{b:Bool}{f:Unit->M β}{p:Prop}{s:S}{y:Res β×S}(h:(BX b >>=f) s=some y)(k:b=true->f () s=some y->p):p:=by
 induction b with
 | true=>exact k rfl h
 | false=>exact nos h
theorem bind_some{m:M α}{f:α->M β}{s:S}(h:(m >>=f) s≠none):m s≠none:=λe=>h (QA e)
end
theorem QQ{b:Bool}{u:Unit}{s s':S}(h:BX b s=some (.ok u,s')):b=true/\s'=s:=by
 induction b with
 | true=>cases h;exact ⟨rfl,rfl⟩
 | false=>exact nos h
theorem JW{o:Option α}{a:α}{s s':S}(h:DX o s=some (.ok a,s')):o=some a/\s'=s:=by
 unfold DX at h
 induction o <;> cases h
 exact ⟨rfl,rfl⟩
structure Lev where
 G:Ground
 prog:Program
 A:Around
 env:Env
 kp:Kept
 envs:List Env
structure Flies(U:Lev)(Y:List Addr)(s:S)(c:Addr)(e:Addr)(r:Shared):Prop where
 st:St U.G U.env.locals U.kp Y s r
 fly:∃ B a0,Heap.StaysIn B r.heap/\B.get? e=none/\r.heap.FunFrames B U.envs/\U.G.base.StaysIn B/\
  (∀ (n:Nat) (o:O) (a:Addr),s.h[n]? =some o->o≠ .dead->Y[n]? =some a->B.get? a=r.heap.get? a)/\
  (∃ xs,U.G.tabs xs/\(∀ q∈xs,B.get? q.1=some q.2/\r.heap.get? q.1=some q.2/\q.1≠U.env.locals/\(∀ p∈U.kp,p.1≠q.1)/\U.G.base.get? q.1=none/\∀ n,Live s n->Y[n]? ≠some q.1)/\CG Y s.h B xs)/\
  ((∃ ob vs,r.heap.get? e=some ob/\ob.cls= .ref c/\ob.data= .fields vs/\vs[0]? =some a0/\vs[1]? =some .none)\/r.heap.TracedW B e (.ref c) a0)
structure Sim{α β:Type}(U:Lev)(Y0:List Addr)(R:List Addr->α->β->Prop)(m:M α)(t:Sem β):Prop where
 run:∀ (Y:List Addr) (s:S) (r:Shared) (Q:β->Shared->Prop) (E:Value->Shared->Prop),Ext Y0 Y->St U.G U.env.locals U.kp Y s r->PassesOwn (model U.prog U.G.w) U.A U.env E->m s≠none->
  (∀ a s',m s=some (.ok a,s')->∀ Y' b r',Ext Y Y'->St U.G U.env.locals U.kp Y' s' r'->R Y' a b->Q b r')->
  (∀ c s',m s=some (.exc c,s')->∀ Y' e r',Ext Y Y'->Flies U Y' s' c e r'->E (.ref e) r')->
  wpAny (model U.prog U.G.w) U.A t Q E r
section
variable {β γ δ:Type} {U:Lev} {Y0:List Addr}
theorem Sim.pure{R:List Addr->α->β->Prop}{a:α}{b:β}(h:∀ Y,Ext Y0 Y->R Y a b):Sim U Y0 R (Pure.pure a) (Pure.pure b):=
 ⟨λY s r Q E x st Z Z ok Z=>aG (ok a s rfl Y b r (Ext.refl Y) st (h Y x))⟩
theorem Sim.bind{R:List Addr->α->β->Prop}{R':List Addr->γ->δ->Prop}{m:M α}{f:α->M γ}{t:Sem β}{g:β->Sem δ}(h:Sim U Y0 R m t)(k:∀ Y a b,Ext Y0 Y->R Y a b->Sim U Y R' (f a) (g b)):
  Sim U Y0 R' (m >>=f) (t >>=g):=by
 refine ⟨λY s r Q E x st pe nn ok ex=>?_⟩;refine aA (h.run Y s r _ E x st pe (bind_some nn) (λa s' e Y' b r' x' st' rr=>?_) λc s' e Y' v r' x' fl=>ex c s' (EA e) Y' v r' x' fl);have q:=nA (f:=f) e;exact (k Y' a b (x.trans x') rr).run Y' s' r' Q E (Ext.refl _) st' pe (by rw [<-q];exact nn) (λc s'' e' Y'' d r'' x''=>ok c s'' (q.trans e') Y'' d r'' (x'.trans x'')) λc s'' e' Y'' v r'' x''=>ex c s'' (q.trans e') Y'' v r'' (x'.trans x'')
theorem Sim.skip{R:List Addr->α->β->Prop}{m:M α}{u:Sem γ}{f:γ->Sem β}(hu:∀ {A:Around} {E:Value->Shared->Prop} {s:Shared} {Q:γ->Shared->Prop},(∀ c,Q c s)->wpAny (model U.prog U.G.w) A u Q E s)(h:∀ c,Sim U Y0 R m (f c)):
  Sim U Y0 R m (u >>=f):=⟨λY s r Q E x st pe nn ok ex=>aA (hu λc=>(h c).run Y s r Q E x st pe nn ok ex)⟩
theorem Sim.at{R:List Addr->α->β->Prop}{m:M α}{pos:Pos}{f:Unit->Sem β}(h:Sim U Y0 R m (f ())):Sim U Y0 R m (standAt pos >>=f):=
 Sim.skip (λq=>dP (q ())) λZ=>h
theorem Sim.holding{R:List Addr->α->β->Prop}{m:M α}{vs:List Value}{t:Sem β}(h:Sim U Y0 R m t):Sim U Y0 R m (holding vs t):=
 ⟨λY s r Q E x st pe nn ok ex=>bT (h.run Y s r Q E x st pe nn ok ex)⟩
theorem Sim.operate{R:List Addr->α->Value->Prop}{m:M α}{vs:List Value}{t:Sem Value}(h:Sim U Y0 R m t):Sim U Y0 R m (operate vs t):=
 ⟨λY s r Q E x st pe nn ok ex=>wpAny_operating (h.run Y s r Q E x st pe nn ok ex)⟩
theorem Sim.bindPure{R:List Addr->α->β->Prop}{m:M α}{t:Sem β}(h:Sim U Y0 R m t):Sim U Y0 R m (t >>=λv=>Pure.pure v):=
 ⟨λY s r Q E x st pe nn ok ex=>aA (fG (h.run Y s r Q E x st pe nn ok ex) (λZ Z q=>aG q) λZ Z e=>e)⟩
theorem Sim.of_eq{R:List Addr->α->β->Prop}{m m':M α}{t t':Sem β}(h:Sim U Y0 R m t)(e:m'=m)(e':t'=t):Sim U Y0 R m' t':=by rw [e,e'];exact h
end
end
section
structure At{α β:Type}(U:Lev)(Y:List Addr)(s:S)(r:Shared)(R:List Addr->α->β->Prop)(m:M α)(t:Sem β):Prop where
 go:∀ (Q:β->Shared->Prop) (E:Value->Shared->Prop),PassesOwn (model U.prog U.G.w) U.A U.env E->m s≠none->
  (∀ a s',m s=some (.ok a,s')->∀ Y' b r',Ext Y Y'->St U.G U.env.locals U.kp Y' s' r'->R Y' a b->Q b r')->
  (∀ c s',m s=some (.exc c,s')->∀ Y' e r',Ext Y Y'->Flies U Y' s' c e r'->E (.ref e) r')->
  wpAny (model U.prog U.G.w) U.A t Q E r
noncomputable abbrev StL(U:Lev):=St U.G U.env.locals U.kp
section
variable {β γ δ:Type} {U:Lev} {Y0:List Addr} {s:S} {r:Shared} {R:List Addr->α->β->Prop} {t:Sem β}
theorem Sim.of_at{m:M α}(h:∀ Y s r,Ext Y0 Y->StL U Y s r->At U Y s r R m t):Sim U Y0 R m t:=⟨λY s r Q E x st pe nn ok ex=>(h Y s r x st).go Q E pe nn ok ex⟩
theorem At.of{m:M α}(h:Sim U Y0 R m t)(x:Ext Y0 Y)(st:StL U Y s r):At U Y s r R m t:=⟨λQ E=>h.run Y s r Q E x st⟩
theorem At.fail:At U Y s r R (EX:M α) t:=⟨λZ Z Z nn Z Z=>aS rfl nn⟩
theorem At.no{m:M α}(h:m s=none):At U Y s r R m t:=⟨λZ Z Z nn Z Z=>aS h nn⟩
theorem Sim.fail:Sim U Y0 R (EX:M α) t:=⟨λZ Z Z Z Z Z Z Z nn Z Z=>aS rfl nn⟩
theorem At.need{b:Bool}{f:Unit->M α}(h:b=true->At U Y s r R (f ()) t):At U Y s r R (BX b >>=f) t:=by
 induction b with
 | true=>exact ⟨(h rfl).go⟩
 | false=>exact ⟨λZ Z Z nn Z Z=>aS rfl nn⟩
theorem Sim.need{b:Bool}{f:Unit->M α}(h:b=true->Sim U Y0 R (f ()) t):Sim U Y0 R (BX b >>=f) t:=by
 induction b with
 | true=>exact ⟨(h rfl).run⟩
 | false=>exact ⟨λZ Z Z Z Z Z Z Z nn Z Z=>aS rfl nn⟩
theorem At.opt{o:Option γ}{f:γ->M α}(h:∀ a,o=some a->At U Y s r R (f a) t):At U Y s r R (DX o >>=f) t:=by
 induction o with
 | some a=>exact ⟨(h a rfl).go⟩
 | none=>exact ⟨λZ Z Z nn Z Z=>aS rfl nn⟩
theorem At.opt'{o:Option α}(h:∀ a,o=some a->At U Y s r R (Pure.pure a) t):At U Y s r R (DX o) t:=by
 induction o with
 | some a=>exact h a rfl
 | none=>exact ⟨λZ Z Z nn Z Z=>aS rfl nn⟩
theorem Sim.opt'{o:Option α}(h:∀ a,o=some a->Sim U Y0 R (Pure.pure a) t):Sim U Y0 R (DX o) t:=by
 induction o with
 | some a=>exact h a rfl
 | none=>exact ⟨λZ Z Z Z Z Z Z Z nn Z Z=>aS rfl nn⟩
theorem At.geto{f:O->M α}(h:∀ o,s.h[n]? =some o->At U Y s r R (f o) t):At U Y s r R (CX n >>=f) t:=by
 cases e:s.h[n]? with
 | none=>exact ⟨λZ Z Z nn Z Z=>aS (QA (by unfold CX;rw [e])) nn⟩
 | some o=>
  have q:(CX n >>=f) s=f o s:=nA (by unfold CX;rw [e]);refine ⟨λQ E pe nn ok ex=>?_⟩;exact (h o e).go Q E pe (by rwa [q] at nn) (λa s' e=>ok a s' (by rw [q];exact e)) (λc s' e=>ex c s' (by rw [q];exact e))
theorem At.ite{c:Prop} [Decidable c]{m₁ m₂:M α}(h₁:c->At U Y s r R m₁ t)(h₂:¬ c->At U Y s r R m₂ t):At U Y s r R (if c then m₁ else m₂) t:=by
 split
 ·rename_i h;exact h₁ h
 ·rename_i h;exact h₂ h
theorem Sim.ite{c:Prop} [Decidable c]{m₁ m₂:M α}(h₁:c->Sim U Y0 R m₁ t)(h₂:¬ c->Sim U Y0 R m₂ t):Sim U Y0 R (if c then m₁ else m₂) t:=by
 split
 ·rename_i h;exact h₁ h
 ·rename_i h;exact h₂ h
theorem At.done{m:M α}{a:α}{s':S}(hm:m s=some (.ok a,s'))(h:∀ (Q:β->Shared->Prop) (E:Value->Shared->Prop),(∀ Y' b r',Ext Y Y'->StL U Y' s' r'->R Y' a b->Q b r')->wpAny (model U.prog U.G.w) U.A t Q E r):At U Y s r R m t:=
 ⟨λQ E Z Z ok Z=>h Q E (ok a s' hm)⟩
theorem At.pure{a:α}(st:StL U Y s r)(h:∀ (Q:β->Shared->Prop) (E:Value->Shared->Prop),(∀ b tk,R Y a b->Q b {r with toks:=tk})->wpAny (model U.prog U.G.w) U.A t Q E r):At U Y s r R (Pure.pure a) t:=
 At.done rfl λQ E k=>h Q E λb tk rr=>k Y b _ (Ext.refl Y) st.toks rr
theorem Sim.pureT{a:α}(h:∀ (r:Shared) (Q:β->Shared->Prop) (E:Value->Shared->Prop),(∀ b tk,(∀ Y,Ext Y0 Y->R Y a b)->Q b {r with toks:=tk})->wpAny (model U.prog U.G.w) U.A t Q E r):Sim U Y0 R (Pure.pure a) t:=
 Sim.of_at λY s r x st=>At.pure st λQ E k=>h r Q E λb tk rr=>k b tk (rr Y x)
end
theorem yE{m:Expr->Prop}{e:Expr}{x:Expr×Str×Pos}(h:xF e=some x)(k:m (.Attribute x.1 x.2.1 x.2.2)):m e:=by
 obtain x12|y|u_|rfl:=bH.mp (show (YP e).map (·.1)=some x from h);rw [y.2];exact k
theorem VE{m:Expr->Prop}{e:Expr}{x:List Expr×Nat×Pos}(h:vD e=some x)(k:m (.Tuple x.1 x.2.1 x.2.2)):m e:=by
 obtain x12|y|u_|rfl:=bH.mp (show (oN e).map (·.1)=some x from h);rw [y.2];exact k
theorem XB{m:Expr->Prop}{e:Expr}{x:Str×Pos}(h:lE e=some x)(k:m (.Name x.1 x.2)):m e:=by
 obtain x12|y|u_|rfl:=bH.mp (show (iQ e).map (·.1)=some x from h);rw [y.2];exact k
theorem EI{m:Expr->Prop}{e:Expr}{x:Expr×List Expr×List Keyword×Pos}(h:jN e=some x)(k:m (.Call x.1 x.2.1 x.2.2.1 x.2.2.2)):m e:=by
 obtain x12|y|u_|rfl:=bH.mp (show (ZP e).map (·.1)=some x from h);rw [y.2];exact k
theorem GF{l:List α}{a:α}(h:tM l=some a):l= [a]:=by
 rcases l with _ | ⟨x,_ | ⟨y,r⟩⟩ <;> cases h;rfl
theorem zK{m:Expr->Prop}{e:Expr}{x:Expr×Expr×Pos}(h:jQ e=some x)(k:m (.Subscript x.1 x.2.1 x.2.2)):m e:=by
 obtain x12|y|u_|rfl:=bH.mp (show (mU e).map (·.1)=some x from h);rw [y.2];exact k
theorem uH{m:Expr->Prop}{e:Expr}{x:(Option Expr×Option Expr×Option Expr)×Pos}(h:vC e=some x)(k:m (.Slice x.1.1 x.1.2.1 x.1.2.2 x.2)):m e:=by
 obtain x12|y|u_|rfl:=bH.mp (show (nN e).map (·.1)=some x from h);rw [y.2];exact k
structure OkA(U:Lev)(d:Nat):Prop where
 frames:U.A.frames=some U.envs
 handled:U.A.handled=none
 depth:U.A.depth+3*d+20 < recursionLimit
 units:U.A.units+40*d+100 < cLine
 cover:∀ env∈U.envs,env.scope.kind≠ .module/\∃ L,env.frame=some L/\(L=U.env.locals\/∃ q∈U.kp,q.1=L)
structure EvR(U:Lev)(Y:List Addr)(J:Ev):Prop where
 a:OkA U J.d
 scope:U.env.scope=J.scope
 kind:J.scope.kind= .function
 cells:CellsR Y J.cells U.env.cells
 glob:U.env.globals=mainGlobals
 blt:U.env.builtins=builtinsNs
 head:J.stm=true->∃ outer L,U.envs=U.env::outer/\U.env.frame=some L
 lq:∀ q,J.lq=some q->U.env.code= .ref q.1/\U.env.qual++"<lambda>"=q.2.2/\q∈U.G.cs
theorem EvR.mono{U:Lev}{Y':List Addr}{J:Ev}(h:EvR U Y J)(x:Ext Y Y'):EvR U Y' J:={h with cells:=h.cells.mono x}
structure Wd(G:Ground)(K:Frag):Prop where
 X:K.In G.base
 T:∃ p loose nY mg mb,Top p loose nY mg mb G.base
 codes:∀ q∈G.cs,CodeHd G.base q.1 q.2.1
 one:∀ p∈G.cs,∀ q∈G.cs,p.2.1=q.2.1->p=q
inductive FlowR(Y:List Addr):Flow->PySem.Flow->Prop
 | next:FlowR Y .next .next
 | ret {v:V} {x:Value}:VR Y v x->FlowR Y (.ret v) (.ret x)
def SimC(U:Lev)(Y0:List Addr)(R:List Addr->α->PySem.Flow->Prop)(m:M α)(c:Code):Prop:=
 ∀ (Y:List Addr) (s:S) (r:Shared) (Q:PySem.Flow->Shared->Prop) (E:Value->Shared->Prop),Ext Y0 Y->StL U Y s r->PassesOwn (model U.prog U.G.w) U.A U.env E->m s≠none->
  (∀ a s',m s=some (.ok a,s')->∀ Y' b r',Ext Y Y'->StL U Y' s' r'->R Y' a b->Q b r')->
  (∀ c s',m s=some (.exc c,s')->∀ Y' e r',Ext Y Y'->Flies U Y' s' c e r'->E (.ref e) r')->
  codeAny (model U.prog U.G.w) U.A c (λres s'=>match res with | .ok f=>Q f s' | .error e=>cameBackBy (model U.prog U.G.w) U.A U.env E e s') r
def SimK(U:Lev)(Y0:List Addr)(m:M Unit)(c:Code):Prop:=
 ∀ (Y:List Addr) (s s':S) (r:Shared) (R:Result->Shared->Prop),Ext Y0 Y->StL U Y s r->m s=some (.ok (),s')->
  (∀ Y' r',Ext Y Y'->StL U Y' s' r'->R (.ok .next) r')->codeAny (model U.prog U.G.w) U.A c R r
structure Sound(prog:Program)(G:Ground)(F:Fns):Prop where
 ev:∀ (U:Lev) J Y e,U.G=G->U.prog=prog->EvR U Y J->Sim U Y VR (F.ev e J) (eval e U.env)
 tr:∀ (U:Lev) J Y e,U.G=G->U.prog=prog->EvR U Y J->Sim U Y (λZ a b=>a=b) (F.tr e J) (isTrue e U.env (eval e U.env))
 exs:∀ (U:Lev) J Y b,U.G=G->U.prog=prog->EvR U Y J->Sim U Y FlowR (F.exs b J) (execs b U.env)
 wh:∀ (U:Lev) J Y t b,U.G=G->U.prog=prog->EvR U Y J->SimC U Y FlowR (F.wh t b J) (.whileLoop t b [] U.env)
 fo:∀ (U:Lev) J Y t b it a,U.G=G->U.prog=prog->EvR U Y J->Y[it]? =some a->SimC U Y FlowR (F.fo t it b J) (.forLoop t (.ref a) b [] U.env)
 co:∀ (U:Lev) J Y t i e Ag sc pos it acc ai aa,U.G=G->U.prog=prog->EvR U Y J->Y[it]? =some ai->Y[acc]? =some aa->
  SimK U Y (F.co t e Ag it acc J) (.compLoop (.ListComp e [⟨t,i,Ag,0⟩] sc pos) 0 (.ref ai) (.ref aa) U.env)
 call:∀ (U:Lev) Y f x args xs d,U.G=G->U.prog=prog->OkA U d->VR Y f x->VsR Y args xs->Sim U Y VR (F.call f args d) (call x xs)
theorem yR(prog:Program)(G:Ground):Sound prog G noF where
 ev:=λZ Z Z Z Z Z Z=>Sim.fail
 tr:=λZ Z Z Z Z Z Z=>Sim.fail
 exs:=λZ Z Z Z Z Z Z=>Sim.fail
 wh:=λZ Z Z Z Z Z Z Z=>λZ Z Z Z Z Z Z Z nn Z Z=>aS rfl nn
 fo:=λZ Z Z Z Z Z Z Z Z Z Z=>λZ Z Z Z Z Z Z Z nn Z Z=>aS rfl nn
 co:=λZ Z Z Z Z Z Z Z Z Z Z Z Z Z Z Z Z Z=>λZ Z Z Z Z Z Z h Z=>by cases h
 call:=λZ Z Z Z Z Z Z Z Z Z Z Z=>Sim.fail
end
section
theorem BG{v:Value}{u:V}(h:jI v=some u)(Y:List Addr):VR Y u v:=by
 induction v with
 | none=>cases h;exact rfl
 | bool b=>cases h;exact rfl
 | int i t=>cases h;exact ⟨t,rfl⟩
 | str s t=>cases h;exact ⟨t,rfl⟩
 | bytes b t=>cases h;exact ⟨t,rfl⟩
 | type n=>cases h;exact rfl
 | builtin i=>cases h;exact rfl
 | ref a=>cases h;exact rfl
 | _=>exact nos h
section
variable {U:Lev} {Y0:List Addr} {s:S} {r:Shared} {J:Ev}
theorem mV{c:Const}{u:V}(h:uD c=some u):Sim U Y0 VR (Pure.pure u) (constValue U.env c):=by
 induction c with
 | none=>cases h;exact Sim.pure λZ Z=>rfl
 | bool b=>cases h;exact Sim.pure λZ Z=>rfl
 | int i=>cases h;exact Sim.pureT λr Q E k=>(wpAny_mkInt (k _ _ λZ Z=>⟨_,rfl⟩))
 | str s=>cases h;exact Sim.pureT λr Q E k=>(wpAny_mkText (k _ _ λZ Z=>⟨_,rfl⟩))
 | bytes b=>cases h;exact Sim.pureT λr Q E k=>(wpAny_mkTextBytes (k _ _ λZ Z=>⟨_,rfl⟩))
 | _=>exact nos h
theorem RM{β:Type}{R:List Addr->V->β->Prop}{f:Nat->M V}{t:Sem β}(h:∀ n,J.cells.lookup x=some n->At U Y s r R (f n) t):At U Y s r R (iG J x >>=f) t:=by
 unfold iG;exact At.opt h
theorem IG{u:V}(h:HB K x=some u):(∃ v,nsIn K mainGlobals x=some (some v)/\jI v=some u)\/(nsIn K mainGlobals x=some none/\x≠"__name__"/\(bootBuiltins x).bind jI=some u):=by
 have h:(match nsIn K mainGlobals x with | some (some v)=>jI v | some Option.none=>if x="__name__" then Option.none else (bootBuiltins x).bind jI | Option.none=>Option.none)=some u:=h
 revert h;refine genI (nsIn K mainGlobals x) ?_;intro q h
 induction q with
 | none=>exact nos h
 | some q=>
 induction q with
 | some v=>exact .inl (i12 v rfl h)
 | none=>
  by_cases hn:x="__name__"
  ·exact nos ((aN hn).symm.trans h)
  ·exact .inr (i03 rfl hn ((aJ hn).symm.trans h))
theorem EW(W:Wd U.G K)(e:EvR U Y0 J)(x:Str)(pos:Pos):Sim U Y0 VR (MJ K J x) (eval (.Name x pos) U.env):=by
 refine Sim.of_at λY s r ex st=>?_;unfold MJ;refine At.ite (λZ=>At.fail) λhd=>?_;have hd':(x==("__debug__" :Str))=false:=by simpa using hd
 have hk:U.env.scope.kind= .function:=by rw [e.scope];exact e.kind
 have fin:∀ {n:Nat} {k:NameKind},U.env.kindOf x=some k->(k= .cell\/k= .free)->J.cells.lookup x=some n->¬ x="__classdict__"->
   At U Y s r VR (CX n >>=λo=>match o with | .cell (some v)=>Pure.pure v | _=>EX) (eval (.Name x pos) U.env):=by
  intro n k hx hc hn hcd;refine At.geto λo ho=>?_
  induction o with
  | cell w=>induction w with
   | none=>exact At.fail
   | some v=>
   refine At.pure st λQ E k'=>?_;obtain x12|c|De|hYj:=(e.cells.mono ex).look hn;obtain x12|ob|hob|Dn:=st.at ho (ndd rfl) hYj;obtain x12|y|hy|hr:=Dn
   induction y with
   | none=>exact hr.elim
   | some y=>
    rcases hc with rfl | rfl
    ·exact wpAny_Name (wpAny_loadName_cell hk hx De (i12 ob hob hy) (k' y _ hr)) hd'
    ·exact wpAny_Name (wpAny_loadName_free hk hx De (i12 ob hob hy) (k' y _ hr) (by simpa using hcd)) hd'
  | _=>exact At.fail
 cases hx:J.scope.names.lookup x with
 | none=>exact At.fail
 | some nk=>
 induction nk with
 | «local»=>
  show At U Y s r VR (getL x) _;have hx':U.env.kindOf x=some .local:=by unfold Env.kindOf;rw [e.scope];exact hx
  refine ⟨λQ E pe nn ok Z=>?_⟩;cases hl:s.l.lookup x with
  | none=>exact aS (by unfold getL;rw [hl]) nn
  | some v=>
   obtain x12|m|hm|hr:=st.ns;obtain x12|y|hy|hv:=hr x v hl;exact wpAny_Name (wpAny_loadName_local hk hx' hm hy (ok v s (by unfold getL;rw [hl]) Y y r (Ext.refl Y) st hv)) hd'
 | cell=>
  refine At.ite (λZ=>At.fail) λhcd=>?_;exact RM λn hn=>fin (by unfold Env.kindOf;rw [e.scope];exact hx) (.inl rfl) hn hcd
 | free=>
  refine At.ite (λZ=>At.fail) λhcd=>?_;exact RM λn hn=>fin (by unfold Env.kindOf;rw [e.scope];exact hx) (.inr rfl) hn hcd
 | globalImplicit=>
  have hx':U.env.kindOf x=some .globalImplicit:=by unfold Env.kindOf;rw [e.scope];exact hx
  refine At.opt' λu hu=>At.pure st λQ E k=>?_;obtain x51|p|loose|nY|mg|mb|T:=W.T;rcases IG hu with ⟨v,hv,hu⟩ | ⟨hv,hn,hu⟩
  ·exact Name_function_global hk hx' (loadGlobal_global (by rw [e.glob];exact T.g.keeps st.base) (mg_of W.X T.g hv) (k v _ (BG hu Y))) hd'
  ·obtain x12|v|hb|hv':=bX.mp hu;exact Name_function_global hk hx' (loadGlobal_builtin (by rw [e.glob];exact T.g.keeps st.base) (mg_none_of W.X T.g hv) (by rw [e.blt];exact T.b.keeps st.base) ((T.builtins x hn).trans hb) (k v _ (BG hv' Y))) hd'
 | _=>exact At.fail
end
end
section
open PySem.SeqAt
theorem FA:(100000:Nat)<=sizeLine:=by decide+kernel
section
variable {s:Shared}
theorem DK{a b:V}{x y:Value}{k:Bool}(h:rC a b=some k)(ha:VR Y a x)(hb:VR Y b y):EqAt A s x y k:=by
 refine zF (P:=λa b k=>VR Y a x->VR Y b y->EqAt A s x y k) h (λi j ha hb=>?_) (λi j ha hb=>?_) (λha hb=>?_) (λj ha hb=>?_) (λj ha hb=>?_) ha hb
 ·obtain x11|t|rfl:=ha;obtain x11|u|rfl:=hb;exact EqAt.int_int _ t _ u
 ·obtain x11|t|rfl:=ha;obtain x11|u|rfl:=hb;exact EqAt.str_str _ t _ u
 ·cases ha;cases hb;exact EqAt.same _
 ·cases ha;obtain x11|u|rfl:=hb;exact EqAt.none_int _ u
 ·cases hb;obtain x11|u|rfl:=ha;exact EqAt.int_none _ u
theorem tQ{a b:V}{x y:Value}{k:Bool}(h:rC a b=some k)(ha:VR Y a x)(hb:VR Y b y):RcAt A s x y k:=by
 refine zF (P:=λa b k=>VR Y a x->VR Y b y->RcAt A s x y k) h (λi j ha hb=>?_) (λi j ha hb=>?_) (λha hb=>?_) (λj ha hb=>?_) (λj ha hb=>?_) ha hb
 ·obtain x11|t|rfl:=ha;obtain x11|u|rfl:=hb;exact RcAt.int_int _ t _ u
 ·obtain x11|t|rfl:=ha;obtain x11|u|rfl:=hb;exact RcAt.str_str _ t _ u
 ·cases ha;cases hb;exact RcAt.none_none
 ·cases ha;obtain x11|u|rfl:=hb;exact RcAt.none_int _ u
 ·cases hb;obtain x11|u|rfl:=ha;exact RcAt.int_none _ u
theorem ML{a b:V}{x y:Value}{k:Bool}(h:rC a b=some k)(ha:VR Y a x)(hb:VR Y b y):RcNeAt A s x y (!k):=by
 refine zF (P:=λa b k=>VR Y a x->VR Y b y->RcNeAt A s x y (!k)) h (λi j ha hb=>?_) (λi j ha hb=>?_) (λha hb=>?_) (λj ha hb=>?_) (λj ha hb=>?_) ha hb
 ·obtain x11|t|rfl:=ha;obtain x11|u|rfl:=hb;exact RcNeAt.int_int _ t _ u
 ·obtain x11|t|rfl:=ha;obtain x11|u|rfl:=hb;exact RcNeAt.str_str _ t _ u
 ·cases ha;cases hb;exact RcNeAt.none_none
 ·cases ha;obtain x11|u|rfl:=hb;exact RcNeAt.none_int _ u
 ·cases hb;obtain x11|u|rfl:=ha;exact RcNeAt.int_none _ u
theorem YN{s:Shared}{x y:Value}{ys:List Value}{a b:Bool}(h0:EqAt A s x y a)(h:∃ e:Nat->Bool,(∀ j (h1:j < xs.length) (h2:j < ys.length),EqAt A s xs[j] ys[j] (e j))/\b=((List.range (min xs.length ys.length)).all e && decide (xs.length=ys.length))):
  ∃ e:Nat->Bool,(∀ j (h1:j < (x::xs).length) (h2:j < (y::ys).length),EqAt A s (x::xs)[j] (y::ys)[j] (e j))/\(a && b)=((List.range (min (x::xs).length (y::ys).length)).all e && decide ((x::xs).length=(y::ys).length)):=by
 obtain x12|e|he|hk:=h;refine i12 (λj=>match j with | 0=>a | j+1=>e j) (λj h1 h2=>?_) ?_
 ·induction j using nCq with
  | zero=>exact h0
  | succ j=>exact he j (fP h1) (fP h2)
 ·have:min (x::xs).length (y::ys).length=min xs.length ys.length+1:=by simp [Nat.succ_min_succ]
  rw [this,List.range_succ_eq_map,gS,List.all_map,hk];simp [Function.comp_def,Bool.and_assoc]
theorem qN(A:Around)(s:Shared){us:List V}{ys:List Value}{k:Bool}(h:PB us vs=some k)(hu:VsR Y us xs)(hv:VsR Y vs ys):
  ∃ e:Nat->Bool,(∀ j (h1:j < xs.length) (h2:j < ys.length),EqAt A s xs[j] ys[j] (e j))/\k=((List.range (min xs.length ys.length)).all e && decide (xs.length=ys.length)):=
 VsR.ind (p:=λus xs=>∀ vs ys k,PB us vs=some k->VsR Y vs ys->∃ e:Nat->Bool,(∀ j (h1:j < xs.length) (h2:j < ys.length),EqAt A s xs[j] ys[j] (e j))/\k=((List.range (min xs.length ys.length)).all e && decide (xs.length=ys.length)))
  (λvs ys k h hv=>by
   refine i12 (λZ=>true) (λZ h1=>aS h1 (fH _)) ?_
   induction vs using lCq with
   | nil=>induction ys using lCq with
    | nil=>exact (Option.some.inj h).symm
    | cons=>exact hv.elim
   | cons=>induction ys using lCq with
    | nil=>exact hv.elim
    | cons=>rw [<-Option.some.inj h];exact rfl)
  (λu us x xs hu Z ih vs ys k h hv=>by
   induction vs using lCq with
   | nil=>induction ys using lCq with
    | nil=>exact ⟨λZ=>true,λZ Z h2=>aS h2 (fH _),by rw [<-Option.some.inj h];exact rfl⟩
    | cons=>exact hv.elim
   | cons v vs=>induction ys using lCq with
    | nil=>exact hv.elim
    | cons y ys=>
     have h:(match rC u v,PB us vs with | some a,some b=>some (a && b) | _,_=>Option.none)=some k:=h
     revert h;cases ha:rC u v with
     | none=>exact λh=>nos h
     | some a=>cases hb:PB us vs with
      | none=>exact λh=>nos h
      | some b=>
       intro h;rw [<-Option.some.inj h];exact YN (DK ha hu hv.1) (ih vs ys b hb hv.2)) hu vs ys k h hv
end
section
variable {U:Lev} {Y0:List Addr}
theorem XW(op:Operator){a b:V}{x y:Value}(ha:VR Y0 a x)(hb:VR Y0 b y):Sim U Y0 VR (binM op a b) (binaryOp op x y):=by
 induction a <;> try exact Sim.fail
 ·induction b <;> try exact Sim.fail
  induction op with
  | Add=>
   obtain x11|t|rfl:=ha;obtain x11|u|rfl:=hb;exact Sim.pureT λr Q E k=>wpAny_add_int (k _ _ λZ Z=>⟨_,rfl⟩)
  | Sub=>
   obtain x11|t|rfl:=ha;obtain x11|u|rfl:=hb;exact Sim.pureT λr Q E k=>PyProof.Rows.sub_int (k _ _ λZ Z=>⟨_,rfl⟩)
  | Mult=>
   obtain x11|t|rfl:=ha;obtain x11|u|rfl:=hb;refine Sim.ite (λh=>?_) λZ=>Sim.fail;exact Sim.pureT λr Q E k=>PyProof.Rows.mul_int (k _ _ λZ Z=>⟨_,rfl⟩) (.of_left (intBits_le_64 (ab1 h.1) (ab2 h.1)))
  | FloorDiv=>
   obtain x11|t|rfl:=ha;obtain x11|u|rfl:=hb;refine Sim.ite (λh=>?_) λZ=>Sim.fail;refine Sim.pureT λr Q E k=>PyProof.Rows.floordiv_int (hU h.1) ?_ (Or.inl (PyProof.noPylong_small (ab3 (eS h.1) (eS h.2) (by decide))));rw [Int.fdiv_eq_ediv_of_nonneg _ (eS h.1)];exact k _ _ λZ Z=>⟨_,rfl⟩
  | Mod=>
   obtain x11|t|rfl:=ha;obtain x11|u|rfl:=hb;refine Sim.ite (λh=>?_) λZ=>Sim.fail;refine Sim.pureT λr Q E k=>PyProof.Rows.mod_int' (hU h.1) ?_;rw [Int.fmod_eq_emod_of_nonneg _ (eS h.1)];exact k _ _ λZ Z=>⟨_,rfl⟩
  | Pow=>
   obtain x11|t|rfl:=ha;obtain x11|u|rfl:=hb;refine Sim.ite (λh=>?_) λZ=>Sim.fail;obtain x03|h0|h1|h2:=h;exact Sim.pureT λr Q E k=>PyProof.Rows.pow_int_small h1 (bD h2 (by decide)) (ab3 h0.1 h0.2 (by decide)) (k _ _ λZ Z=>⟨_,rfl⟩)
  | LShift=>
   obtain x11|t|rfl:=ha;obtain x11|u|rfl:=hb;refine Sim.ite (λh=>?_) λZ=>Sim.fail;exact Sim.pureT λr Q E k=>PyProof.Rows.lshift_int_small h.2.1 (bD h.2.2 (by decide)) h.1 (k _ _ λZ Z=>⟨_,rfl⟩)
  | RShift=>
   obtain x11|t|rfl:=ha;obtain x11|u|rfl:=hb;refine Sim.ite (λh=>?_) λZ=>Sim.fail;exact Sim.pureT λr Q E k=>PyProof.Rows.rshift_int h.1 (k _ _ λZ Z=>⟨_,rfl⟩)
  | BitAnd=>
   obtain x11|t|rfl:=ha;obtain x11|u|rfl:=hb;exact Sim.pureT λr Q E k=>PyProof.Rows.and_int (k _ _ λZ Z=>⟨_,rfl⟩)
  | _=>exact Sim.fail
 ·induction b <;> try exact Sim.fail
  induction op with
  | Add=>
   obtain x11|t|rfl:=ha;obtain x11|u|rfl:=hb;refine Sim.ite (λh=>?_) λZ=>Sim.fail;exact Sim.pureT λr Q E k=>PyProof.Rows.add_str (λt' tk=>k _ _ λZ Z=>⟨_,rfl⟩) (aE h FA)
  | _=>exact Sim.fail
 ·induction b <;> try exact Sim.fail
  induction op with
  | Add=>
   refine Sim.of_at λY s r ex st=>?_;obtain x12|ax|Ah|rfl:=ha.mono ex;obtain x12|ay|Ch|rfl:=hb.mono ex;refine At.geto λo1 h1=>At.geto λo2 h2=>?_
   induction o1 with
   | list u=>induction o2 with
    | list v=>
    refine At.need λhn=>?_;obtain x13|Aj|g1|Dp|Dq:=st.at h1 (ndd rfl) Ah;obtain x02|c1|z1:=Dp;obtain x22|xs|n1|d1|r1:=Dq;obtain x13|Bm|g2|Dn|Do:=st.at h2 (ndd rfl) Ch;obtain x02|c2|z2:=Dn;obtain x22|ys|n2|d2|r2:=Do;obtain ⟨cls1,dd1,dt1,sl1⟩:=Aj;obtain ⟨cls2,dd2,dt2,sl2⟩:=Bm;dsimp only at c1 d1 c2 d2;subst c1 d1 c2 d2;have Af:xs.toArray.size+ys.toArray.size<=sizeLine:=by
     have:=aX hn;rw [bU,bU,<-r1.length,<-r2.length];exact aE this FA
    refine At.done (a:= .ref s.h.length) (s':={s with h:=s.h++ [.list (u++v)]}) rfl λQ E k=>?_;refine concat_meets (i12 _ g1 rfl) (i12 _ g2 rfl) noFill_list_add seq_list_add PySem.F.slot_list_add PySem.F.entry_list_add (PySem.F.args_list_add_2 _ _) (list_addW ax ay xs.toArray ys.toArray n1 n2 dd1 dd2 sl1 sl2 Af) (i03 g1 g2 ?_);refine k (Y++ [r.heap.objs.size]) _ _ (Ext.one _ _) (st.alloc (λb o e=>aM _ e) Heap.fresh_none (bC _ rfl) ⟨i03 rfl rfl rfl,xs++ys,0,by simp,(r1.mono (Ext.one _ _)).append (r2.mono (Ext.one _ _))⟩ (aV st.big)) (i12 _ (by rw [<-st.len];simp) rfl)
    | _=>exact At.fail
   | _=>exact At.fail
  | _=>exact Sim.fail
end
end
section
structure Enc(prog:Program)(w:World)(T:Type) [DecidableEq T] where
 knd:KeyKind prog w T
 enc:T->V
 inj:∀ a b,enc a=enc b->a=b
 to:∀ k x h,KeyR w (enc k) x h->knd.is k x=true/\h=knd.hash k
 ok:∀ k,wD (enc k)=true
 like:∀ k v,FE (enc k) v=true->∃ j,v=enc j
 of:∀ k x,knd.is k x=true->KeyR w (enc k) x (knd.hash k)
 val:∀ Y k x,VR Y (enc k) x->knd.is k x=true
 back:∀ Y k x,knd.is k x=true->VR Y (enc k) x
 dec:V->Option T
 dec_enc:∀ k,dec (enc k)=some k
noncomputable def encI(prog:Program)(w:World):Enc prog w Int where
 knd:=intKind prog w
 enc:=V.int
 inj:=λZ Z h=>by cases h;rfl
 to:=λk x h ⟨⟨t,e⟩,e'⟩=>⟨by rw [e];exact intKind_is prog w k t,e'⟩
 ok:=λZ=>rfl
 like:=λk v h=>by induction v <;> first | exact ⟨_,rfl⟩ | exact (aW h).elim
 of:=λk x h=>⟨Value.isInt_shape h,rfl⟩
 val:=λY k x ⟨t,e⟩=>by rw [e];exact intKind_is prog w k t
 back:=λY k x h=>Value.isInt_shape h
 dec:=λv=>match v with | .int i=>some i | _=>none
 dec_enc:=λZ=>rfl
noncomputable def encS(prog:Program)(w:World):Enc prog w Str where
 knd:=strKind prog w
 enc:=V.str
 inj:=λZ Z h=>by cases h;rfl
 to:=λk x h ⟨⟨t,e⟩,e'⟩=>⟨by rw [e];exact strKind_is prog w k t,e'⟩
 ok:=λZ=>rfl
 like:=λk v h=>by induction v <;> first | exact ⟨_,rfl⟩ | exact (aW h).elim
 of:=λk x h=>⟨Value.isStrOf_shape h,rfl⟩
 val:=λY k x ⟨t,e⟩=>by rw [e];exact strKind_is prog w k t
 back:=λY k x h=>Value.isStrOf_shape h
 dec:=λv=>match v with | .str i=>some i | _=>none
 dec_enc:=λZ=>rfl
section
variable {T:Type} [DecidableEq T] (c:Enc prog w T)
theorem IJ{k:V}{e:V×V}:uA k (e::es)=(FE k e.1 && uA k es):=rfl
theorem sH{j:T}{p:List (V×V)->List DictEntry->Prop}(h0:p [] [])(h1:∀ i b es x xs,KeyR w (c.enc i) x.key x.hash->VR Y b x.val->EsR w Y es xs->p es xs->p ((c.enc i,b)::es) (x::xs)){xs:List DictEntry}(hl:uA (c.enc j) es=true)(h:EsR w Y es xs):p es xs:=
 EsR.ind (p:=λes xs=>uA (c.enc j) es=true->p es xs) (λZ=>h0) (λe es x xs hk hv hr ih hl=>by
  obtain ⟨k,b⟩:=e;rw [IJ,bY] at hl;obtain x11|i|hi:=c.like j k hl.1;subst hi;exact h1 i b es x xs hk hv hr (ih hl.2)) h hl
theorem KL{j:T}{xs:List DictEntry}(hl:uA (c.enc j) es=true)(h:EsR w Y es xs):∀ e∈xs,∃ k,c.knd.is k e.key=true/\e.hash=c.knd.hash k:=
 sH (c:=c) (p:=λZ xs=>∀ e∈xs,∃ k,c.knd.is k e.key=true/\e.hash=c.knd.hash k) (λZ h=>aS h cR) (λi b es x xs hk Z Z ih e he=>by
  rcases aZ.mp he with rfl | he
  ·exact ⟨i,c.to i _ _ hk⟩
  ·exact ih e he) hl h
theorem FC{j:T}{xs:List DictEntry}(hl:uA (c.enc j) es=true)(h:EsR w Y es xs):KeysOf c.knd xs.toArray:=λe he=>KL c hl h e (by simpa using he)
theorem CQ{a b:T}{x:Value}{h:Int}(hk:KeyR w (c.enc a) x h):c.knd.is b x=decide (c.enc a=c.enc b):=by
 have h1:=(c.to a x h hk).1;by_cases e:a=b
 ·subst e;rw [h1];simp
 ·have:c.knd.is b x=false:=by
   cases q:c.knd.is b x with
   | false=>rfl
   | true=>exact aS (c.knd.inj x a b h1 q) e
  rw [this];exact (bE λz=>e (c.inj a b z)).symm
theorem JL{j:T}{xs:List DictEntry}(hl:uA (c.enc j) es=true)(h:EsR w Y es xs)(i:T):OptR Y (IA (c.enc i) es) ((xs.find? λe=>c.knd.is i e.key).map (·.val)):=
 sH (c:=c) (p:=λes xs=>OptR Y (IA (c.enc i) es) ((xs.find? λe=>c.knd.is i e.key).map (·.val))) trivial (λa b es x xs hk hv Z ih=>by
  show OptR Y (if c.enc a=c.enc i then some b else IA (c.enc i) es) _;rw [fT,CQ c hk];by_cases e:c.enc a=c.enc i
  ·rw [aN e,aF e];exact hv
  ·rw [aJ e,bE e];exact ih) hl h
theorem wF{j:T}{xs:List DictEntry}(hl:uA (c.enc j) es=true)(h:EsR w Y es xs)(i:T):OptR Y (IA (c.enc i) es) (findBy c.knd.is xs.toArray i):=by
 have:=JL c hl h i;unfold findBy;simpa using this
noncomputable def putX(p:DictEntry->Bool)(v:Value)(e₀:DictEntry):List DictEntry->List DictEntry
 | []=> [e₀]
 | e::r=>if p e then {e with val:=v}::r else e::putX p v e₀ r
theorem WK{p:DictEntry->Bool}{v:Value}{e₀:DictEntry}:∀ {xs:List DictEntry} {i:Nat},xs.findIdx? p=some i->xs.modify i (λe=>{e with val:=v})=putX p v e₀ xs:=by
 intro xs
 induction xs with
 | nil=>intro _ h;simp at h
 | cons e r ih=>
  intro i h;rw [List.findIdx?_cons] at h;rw [show putX p v e₀ (e::r)=if p e then {e with val:=v}::r else e::putX p v e₀ r from rfl];split at h
  ·rename_i q;cases h;rw [aN q];rfl
  ·rename_i q;rw [aJ q];cases hr:r.findIdx? p with
   | none=>rw [hr] at h;cases h
   | some k=>rw [hr] at h;cases h;rw [List.modify_succ_cons,ih hr]
theorem VK{p:DictEntry->Bool}{v:Value}{e₀:DictEntry}:∀ {xs:List DictEntry},xs.findIdx? p=none->xs++ [e₀]=putX p v e₀ xs:=by
 intro xs
 induction xs with
 | nil=>intro _;exact rfl
 | cons e r ih=>
  intro h;rw [List.findIdx?_cons] at h;rw [show putX p v e₀ (e::r)=if p e then {e with val:=v}::r else e::putX p v e₀ r from rfl];split at h
  ·cases h
  ·rename_i q;rw [aJ q];cases hr:r.findIdx? p with
   | none=>rw [fM,ih hr]
   | some k=>rw [hr] at h;cases h
noncomputable def pI(p:DictEntry->Bool):List DictEntry->List DictEntry
 | []=> []
 | e::r=>if p e then r else e::pI p r
theorem SN{p:DictEntry->Bool}:∀ {xs:List DictEntry} {i:Nat},xs.findIdx? p=some i->xs.eraseIdx i=pI p xs:=by
 intro xs
 induction xs with
 | nil=>intro _ h;simp at h
 | cons e r ih=>
  intro i h;rw [List.findIdx?_cons] at h;rw [show pI p (e::r)=if p e then r else e::pI p r from rfl];split at h
  ·rename_i q;cases h;rw [aN q];rfl
  ·rename_i q;rw [aJ q];cases hr:r.findIdx? p with
   | none=>rw [hr] at h;cases h
   | some k=>rw [hr] at h;cases h;rw [List.eraseIdx_cons_succ,ih hr]
theorem lU{j k:T}{key u:Value}(Ae:KeyR w (c.enc k) key (c.knd.hash k))(hv:VR Y v u){xs:List DictEntry}(hl:uA (c.enc j) es=true)(h:EsR w Y es xs):EsR w Y (putK (c.enc k) v es) (putX (λe=>c.knd.is k e.key) u ⟨c.knd.hash k,key,u⟩ xs):=
 sH (c:=c) (p:=λes xs=>EsR w Y (putK (c.enc k) v es) (putX (λe=>c.knd.is k e.key) u ⟨c.knd.hash k,key,u⟩ xs)) (i03 Ae hv trivial) (λi b es x xs hk hb hr ih=>by
  show EsR w Y (if c.enc i=c.enc k then (c.enc i,v)::es else (c.enc i,b)::putK (c.enc k) v es) (if c.knd.is k x.key then {x with val:=u}::xs else x::putX (λe=>c.knd.is k e.key) u ⟨c.knd.hash k,key,u⟩ xs);rw [CQ c hk];by_cases e:c.enc i=c.enc k
  ·rw [aN e,aN (aF e)];exact i03 hk hv hr
  ·rw [aJ e,aJ (λz=>e (aX z))];exact i03 hk hb ih) hl h
theorem XP{j k:T}{xs:List DictEntry}(hl:uA (c.enc j) es=true)(h:EsR w Y es xs):EsR w Y (zB (c.enc k) es) (pI (λe=>c.knd.is k e.key) xs):=
 sH (c:=c) (p:=λes xs=>EsR w Y (zB (c.enc k) es) (pI (λe=>c.knd.is k e.key) xs)) trivial (λi b es x xs hk hb hr ih=>by
  show EsR w Y (if c.enc i=c.enc k then es else (c.enc i,b)::zB (c.enc k) es) (if c.knd.is k x.key then xs else x::pI (λe=>c.knd.is k e.key) xs);rw [CQ c hk];by_cases e:c.enc i=c.enc k
  ·rw [aN e,aN (aF e)];exact hr
  ·rw [aJ e,aJ (λz=>e (aX z))];exact i03 hk hb ih) hl h
theorem KD(k v:V)(es:List (V×V)):(putK k v es).length<=es.length+1:=by
 induction es with
 | nil=>exact aY 1
 | cons e r ih=>
  rw [OI];split
  ·exact cE _
  ·exact bP ih
theorem mR(k v:V):∀ es:List (V×V),(putK k v es).map (·.1)=if k∈es.map (·.1) then es.map (·.1) else es.map (·.1)++ [k]:=by
 intro es
 induction es with
 | nil=>exact rfl
 | cons z0 es ih=>
  obtain ⟨a,b⟩:=z0;rw [OI];by_cases e:a=k
  ·subst e;simp
  ·rw [aJ e];have ih:=ih;simp only [List.map_cons,ih,List.mem_cons,Ne.symm e,false_or];split <;> simp
theorem xG{k:V}(h:(es.map (·.1)).Nodup):((putK k v es).map (·.1)).Nodup:=by
 rw [mR];split
 ·exact h
 ·rename_i q;rw [dJ];refine i03 h (by simp) λa ha b hb e=>?_;have:b=k:=by simpa using hb
  subst this e;exact q ha
theorem UP(k:V):∀ es:List (V×V),(zB k es).Sublist es:=by
 intro es
 induction es with
 | nil=>exact .slnil
 | cons z0 es ih=>
  obtain ⟨a,b⟩:=z0;rw [UE];split
  ·exact List.sublist_cons_self _ _
  ·exact (ih).cons_cons _
theorem rH{k:V}(h:(es.map (·.1)).Nodup):((zB k es).map (·.1)).Nodup:=((UP k es).map _).nodup h
theorem SL{k:V}(h:wD k=true):(∃ i,k= .int i)\/∃ s,k= .str s:=by
 induction k <;> first | exact .inl ⟨_,rfl⟩ | exact .inr ⟨_,rfl⟩ | cases h
end
section
variable {s:Shared} {T:Type} [DecidableEq T] {knd:KeyKind prog w T}
theorem TE{d:Addr}{o:Obj}{xs:List DictEntry}{ep:Nat}{k:T}{key v:Value}{Q:Unit->Shared->Prop}(Ae:knd.is k key=true)(ho:s.heap.get? d=some o)(hc:o.ExactDict)(hd:o.data= .dict xs.toArray ep)
  (hk:KeysOf knd xs.toArray) (hQ:∀ h' o',h'.get? d=some o'->o'.ExactDict->o'.data= .dict (putX (λe=>knd.is k e.key) v ⟨knd.hash k,key,v⟩ xs).toArray (if (xs.find? λe=>knd.is k e.key).isSome then ep else ep+1)->Heap.SameBut d s.heap h'->Q () {s with heap:=h'})
  (hz:xs.toArray.size<=sizeLine):wpAny (model prog w) A (dictSetHashed d key (knd.hash k) v) Q E s:=by
 unfold dictSetHashed;try with_reducible refine bT ?_
 refine aA (wpAny_dictFind_of Ae ho hd hk ?_);have hfi:(xs.toArray.findIdx? λe=>knd.is k e.key)=xs.findIdx? λe=>knd.is k e.key:=by simp
 rw [hfi];cases hi:xs.findIdx? λe=>knd.is k e.key with
 | some i=>
  have hs:(xs.find? λe=>knd.is k e.key).isSome=true:=by
   rw [List.find?_isSome];obtain x12|hl|hp|u_:=fD.mp hi;exact i12 (xs[i]) (List.getElem_mem hl) hp
  refine aA (wpAny_rule (aA (wpAny_updateDict ho hd (wpAny_point (hQ _ _ (cL _ ho (Obj.isFreed_of_dict (Obj.data_mapDict hd _))) (hc.mapDict _) ?_ (Heap.SameBut.update ..))))));rw [Obj.data_mapDict hd _,aN hs,<-WK hi];simp
 | none=>
  have hs:(xs.find? λe=>knd.is k e.key).isSome=false:=by
   rw [fY];intro z;rw [List.find?_isSome] at z;obtain x12|e|he|hp:=z;have:=gD.mp hi e he;rw [this] at hp;cases hp
  refine aA (wpAny_rule (wpAny_updateDictKeys (hz:=hz) ho hd (hQ _ _ (cL _ ho (Obj.isFreed_of_dict (Obj.data_mapDictKeys hd _))) (hc.mapDictKeys _) ?_ (Heap.SameBut.update ..))));rw [Obj.data_mapDictKeys hd _,hs,<-VK (v:=v) hi];simp
theorem vF{d:Addr}{o:Obj}{xs:List DictEntry}{ep:Nat}{k:T}{key v:Value}{Q:Unit->Shared->Prop}(Ae:knd.is k key=true)(ho:s.heap.get? d=some o)(hc:o.ExactDict)(hd:o.data= .dict xs.toArray ep)
  (hk:KeysOf knd xs.toArray) (hQ:∀ h' o' tk,h'.get? d=some o'->o'.ExactDict->o'.data= .dict (putX (λe=>knd.is k e.key) v ⟨knd.hash k,key,v⟩ xs).toArray (if (xs.find? λe=>knd.is k e.key).isSome then ep else ep+1)->Heap.SameBut d s.heap h'->Q () {s with heap:=h',toks:=tk})
  (hz:xs.toArray.size<=sizeLine):wpAny (model prog w) A (dictSet d key v) Q E s:=by
 unfold dictSet;try with_reducible refine bT ?_
 refine aA (knd.pyHash Ae ?_);exact TE (s:={s with toks:=s.toks+1}) Ae ho hc hd hk (λh' o'=>hQ h' o' _) hz
theorem VJ{d:Addr}{o:Obj}{xs:List DictEntry}{ep:Nat}{k:T}{key v:Value}{Q:Unit->Shared->Prop}(Ae:knd.is k key=true)(ho:s.heap.get? d=some o)(hc:o.ExactDict)(hd:o.data= .dict xs.toArray ep)
  (hk:KeysOf knd xs.toArray) (hQ:∀ h' o' tk,h'.get? d=some o'->o'.ExactDict->o'.data= .dict (putX (λe=>knd.is k e.key) v ⟨knd.hash k,key,v⟩ xs).toArray (if (xs.find? λe=>knd.is k e.key).isSome then ep else ep+1)->Heap.SameBut d s.heap h'->Q () {s with heap:=h',toks:=tk})
  (hz:xs.toArray.size<=sizeLine):wpAny (model prog w) A (setItem (.ref d) key v) Q E s:=by
 have ht:s.TypeIs (.ref d) "dict":=i12 o ho hc.1;unfold setItem;try with_reducible refine bT ?_
 refine aA (wpAny_sequenceKey ht (by decide) ?_);refine aA (wpAny_callSpecial?_slot (name:=Str.ofString "__setitem__") ht slot_dict_setitem
  (dQ slot_dict_setitem ht entry_dict_setitem ?_ (args_dict_setitem _ _ _)))
 show wpAny _ _ (Builtin.Dict.notOrdered "__setitem__" ⟨[.ref d,key,v],[]⟩ >>=_) _ _ s;refine aA (wpAny_notOrdered_dict ht ?_);show wpAny _ _ (dictSet d key v >>=_) _ _ s;exact aA (vF Ae ho hc hd hk (λh' o' tk h1 h2 h3 hs'=>aG (i12 (.none) rfl (aG (hQ h' o' tk h1 h2 h3 hs')))) hz)
end
end
section
section
variable {s:Shared} {T:Type} [DecidableEq T] {knd:KeyKind prog w T}
theorem RF{d:Addr}{o:Obj}{xs:List DictEntry}{ep:Nat}{k:T}{key v:Value}{Q:Option DictEntry->Shared->Prop}(Ae:knd.is k key=true)(ho:s.heap.get? d=some o)(hc:o.ExactDict)(hd:o.data= .dict xs.toArray ep)
  (hk:KeysOf knd xs.toArray) (hf:findBy knd.is xs.toArray k=some v) (hQ:∀ e h' o',e.val=v->h'.get? d=some o'->o'.ExactDict->o'.data= .dict (pI (λe=>knd.is k e.key) xs).toArray (ep+1)->Heap.SameBut d s.heap h'->Q (some e) {s with heap:=h',toks:=s.toks+1})
  (hz:xs.toArray.size<=sizeLine):wpAny (model prog w) A (Builtin.Dict.takeOut d key) Q E s:=by
 unfold Builtin.Dict.takeOut;try with_reducible refine bT ?_
 refine aA (knd.pyHash Ae ?_);refine aA (wpAny_dictFind_of (s:={s with toks:=s.toks+1}) Ae ho hd hk ?_);have hfi:(xs.toArray.findIdx? λe=>knd.is k e.key)=xs.findIdx? λe=>knd.is k e.key:=by simp
 rw [hfi];unfold findBy at hf;have hf':(xs.find? λe=>knd.is k e.key).map (·.val)=some v:=by simpa using hf
 cases hi:xs.findIdx? λe=>knd.is k e.key with
 | none=>
  have:(xs.find? λe=>knd.is k e.key)=none:=by
   rw [gT];intro e he;have:=gD.mp hi e he;simpa using this
  rw [this] at hf';cases hf'
 | some i=>
  obtain x12|hl|hp|hlt:=fD.mp hi;have hfe:xs.find? (λe=>knd.is k e.key)=some xs[i]:=by
   rw [List.find?_eq_some_iff_getElem];exact ⟨hp,i,hl,rfl,λj hj=>by simpa using hlt j hj⟩
  rw [hfe] at hf';have hv:xs[i].val=v:=by simpa using hf'
  refine aA (wpAny_dictEntries (s:={s with toks:=s.toks+1}) ho hd ?_);have he':xs.toArray[i]? =some xs[i]:=by simp [hl]
  rw [he'];refine aA (wpAny_updateDictKeys (hz:=hz) (s:={s with toks:=s.toks+1}) ho hd (aG (hQ xs[i] _ _ hv (cL _ ho (Obj.isFreed_of_dict (Obj.data_mapDictKeys hd _)))
   (hc.mapDictKeys _) ?_ (Heap.SameBut.update ..))))
  rw [Obj.data_mapDictKeys hd _,<-SN hi];simp
theorem IH{d:Addr}{k:T}{key:Value}(Ae:knd.is k key=true)(hpart:(keyPart key).isSome=true):
  MeetsIn prog w (Builtin.«dict.pop» ⟨[.ref d,key],[]⟩) (λZ R s=>∃ o xs ep v,s.heap.get? d=some o/\o.ExactDict/\o.data= .dict (List.toArray xs) ep/\KeysOf knd xs.toArray/\findBy knd.is xs.toArray k=some v/\xs.toArray.size<=sizeLine/\
   ∀ h' o' tk,h'.get? d=some o'->o'.ExactDict->o'.data= .dict (pI (λe=>knd.is k e.key) xs).toArray (ep+1)->Heap.SameBut d s.heap h'->R (.ok (.ret v)) {s with heap:=h',toks:=tk}):=
 .of_wp λA R s ii=>by
  obtain x42|o|xs|ep|v|ho|Do:=ii;obtain x06|hc|hd|hk|hf|hz|h:=Do;unfold Builtin.«dict.pop»;refine aA ?_;unfold Builtin.Dict.keyAndDefault;refine aA (wpAny_notOrdered_dict (i12 o ho hc.1) ?_);show wpAny _ _ (pure (d,key,none)) _ _ s;refine aG ?_;simp only [hpart,if_true];refine aA (aG ?_);rw [aJ aW];refine aA (RF Ae ho hc hd hk hf (λe h' o' he h1 h2 h3 h4=>?_) hz);simp only [Option.isNone_some,Bool.false_eq_true,if_false];exact aA (wpAny_letGo (aG ⟨e.val,rfl,by rw [he];exact h h' o' _ h1 h2 h3 h4⟩))
theorem HH{d:Addr}{k:T}{key:Value}(Ae:knd.is k key=true):
  MeetsIn prog w (Builtin.«dict.__delitem__» ⟨[.ref d,key],[]⟩) (λZ R s=>∃ o xs ep v,s.heap.get? d=some o/\o.ExactDict/\o.data= .dict (List.toArray xs) ep/\KeysOf knd xs.toArray/\findBy knd.is xs.toArray k=some v/\xs.toArray.size<=sizeLine/\
   ∀ h' o' tk,h'.get? d=some o'->o'.ExactDict->o'.data= .dict (pI (λe=>knd.is k e.key) xs).toArray (ep+1)->Heap.SameBut d s.heap h'->R (.ok (.ret .none)) {s with heap:=h',toks:=tk}):=
 .of_wp λA R s ii=>by
  obtain x42|o|xs|ep|v|ho|Dn:=ii;obtain x06|hc|hd|hk|hf|hz|h:=Dn;unfold Builtin.«dict.__delitem__»;refine aA ?_;unfold Builtin.Dict.dictSlotArgs;refine aA (wpAny_notOrdered_dict (i12 o ho hc.1) ?_);show wpAny _ _ (pure (Value.ref d,key)) _ _ s;refine aG ?_;show wpAny _ _ (Builtin.Dict.takeOut d key >>=_) _ _ s;refine aA (RF Ae ho hc hd hk hf (λe h' o' he h1 h2 h3 h4=>?_) hz);exact aA (wpAny_letGo (aG (i12 (.none) rfl (h h' o' _ h1 h2 h3 h4))))
end
end
section
open PySem.SeqAt
section
variable {U:Lev} {Y0:List Addr} {s:S} {r:Shared}
theorem TQ{o:Option α}{s s':S}{res:Res α}(h:DX o s=some (res,s')):∃ k,o=some k/\res= .ok k/\s'=s:=by
 induction o with
 | none=>cases h
 | some a=>cases h;exact i13 a rfl rfl rfl
def QO(_:List Addr)(k:Bool)(v:Value):Prop:=v= .bool k
theorem kU(hu:U.A.units < cLine)(st:StL U Y s r){a b:V}{x y:Value}(ha:VR Y a x)(hb:VR Y b y){res:Res Bool}{s':S}(h:eqM a b s=some (res,s')):
  s'=s/\∃ k,res= .ok k/\RcAt U.A r x y k/\RcNeAt U.A r x y (!k):=by
 have flat:∀ {o:Option Bool},DX o s=some (res,s')->(∀ k,o=some k->RcAt U.A r x y k/\RcNeAt U.A r x y (!k))->s'=s/\∃ k,res= .ok k/\RcAt U.A r x y k/\RcNeAt U.A r x y (!k):=by
  intro o h hk;unfold DX at h
  induction o with
  | none=>cases h
  | some k=>cases h;exact ⟨rfl,k,rfl,hk k rfl⟩
 have other:rC a b=rC a b->(DX (rC a b) s=some (res,s')->s'=s/\∃ k,res= .ok k/\RcAt U.A r x y k/\RcNeAt U.A r x y (!k)):=λZ h=>flat h λk hk=>⟨tQ hk ha hb,ML hk ha hb⟩
 induction a with
 | ref m=>induction b with
  | ref n=>
   obtain x12|ax|Ah|rfl:=ha;obtain x12|ay|Ch|rfl:=hb;refine GD h λo1 e1 h=>GD h λo2 e2 h=>?_
   induction o1 with
   | list u=>induction o2 with
    | list v=>
     obtain x13|Aj|g1|Do|Dp:=st.at e1 (ndd rfl) Ah;obtain x02|c1|z1:=Do;obtain x22|xs|n1|d1|r1:=Dp;obtain x13|Bm|g2|Dy|Dn:=st.at e2 (ndd rfl) Ch;obtain x02|c2|z2:=Dy;obtain x22|ys|n2|d2|r2:=Dn;have L1:r.heap.IsList ax xs.toArray:=i13 Aj g1 c1 ⟨n1,d1⟩;have L2:r.heap.IsList ay ys.toArray:=i13 Bm g2 c2 ⟨n2,d2⟩;by_cases hne:u.length≠v.length
     ·have h:(if u.length≠v.length then pure false else DX (PB u v):M Bool) s=some (res,s'):=h;rw [aN hne] at h;cases h;have hs:(xs.toArray.size !=ys.toArray.size)=true:=by simpa [r1.length,r2.length] using hne
      exact ⟨rfl,_,rfl,RcAt.lists_lengths L1 L2 hs hu,RcNeAt.lists_lengths L1 L2 hs hu⟩
     ·have h:(if u.length≠v.length then pure false else DX (PB u v):M Bool) s=some (res,s'):=h;rw [aJ hne] at h;have Af:xs.toArray.size=ys.toArray.size:=by
       have:=Decidable.not_not.mp hne;simpa [r1.length,r2.length] using this
      refine flat h λk hk=>?_;obtain x12|e|he|hk:=qN U.A.in1 r hk r1 r2;have hk':k=(List.range xs.toArray.size).all e:=by
       rw [hk];have:xs.length=ys.length:=by simpa using Af
       simp [this]
      subst hk';exact ⟨RcAt.lists L1 L2 Af hu he,RcNeAt.lists L1 L2 Af hu he⟩
    | _=>exact nos h
   | tup u=>induction o2 with
    | tup v=>
     obtain x13|Aj|g1|c1|Dx:=st.at e1 (ndd rfl) Ah;obtain x22|xs|n1|d1|r1:=Dx;obtain x13|Bm|g2|c2|Dw:=st.at e2 (ndd rfl) Ch;obtain x22|ys|n2|d2|r2:=Dw;have L1:r.heap.IsTuple ax xs.toArray:=i13 Aj g1 c1 ⟨n1,d1⟩;have L2:r.heap.IsTuple ay ys.toArray:=i13 Bm g2 c2 ⟨n2,d2⟩;refine flat h λk hk=>?_;obtain x12|e|he|hk:=qN U.A.in1 r hk r1 r2;have hk':k=((List.range (min xs.toArray.size ys.toArray.size)).all e && xs.toArray.size==ys.toArray.size):=hk;subst hk';exact ⟨RcAt.tuples L1 L2 hu he,RcNeAt.tuples L1 L2 hu he⟩
    | _=>exact nos h
   | _=>exact nos h
  | _=>exact other rfl h
 | _=>exact other rfl h
def InAt(U:Lev)(r:Shared)(x y:Value)(k:Bool):Prop:=
 ∀ (Q:Value->Shared->Prop) (E:Value->Shared->Prop),((∀ tk,Q (.bool k) {r with toks:=tk})->wpAny (model U.prog U.G.w) U.A (compareOp .In x y) Q E r)/\
  ((∀ tk,Q (.bool (!k)) {r with toks:=tk})->wpAny (model U.prog U.G.w) U.A (compareOp .NotIn x y) Q E r)
noncomputable def eqv(a:V)(y:Value):Bool:=match a,y with
 | .int i,.int j _=>decide (j=i)
 | .str i,.str j _=>decide (j=i)
 | .none,.none=>true
 | _,_=>false
theorem ZM{a:V}{y:Value}{k:Bool}(h:rC v a=some k)(hv:VR Y v y):eqv a y=k:=by
 refine zF (P:=λv a k=>VR Y v y->eqv a y=k) h (λZ Z hv=>?_) (λZ Z hv=>?_) (λhv=>?_) (λZ hv=>?_) (λZ hv=>?_) hv
 ·obtain x11|t|rfl:=hv;rfl
 ·obtain x11|t|rfl:=hv;rfl
 ·cases hv;rfl
 ·cases hv;rfl
 ·obtain x11|t|rfl:=hv;rfl
theorem oU(A:Around)(r:Shared){a:V}{x:Value}(ha:VR Y a x):∀ {us:List V} {xs:List Value} {k:Bool},inL a us=some k->VsR Y us xs->(∀ y∈xs,EqAt A r y x (eqv a y))/\xs.any (eqv a)=k:=by
 intro us xs k h hv
 revert k
 refine VsR.ind (p:=λus xs=>∀ {k:Bool},inL a us=some k->(∀ y∈xs,EqAt A r y x (eqv a y))/\xs.any (eqv a)=k) (λ{k} h=>?_) (λu us y ys hu _ ih {k} h=>?_) hv
 ·cases h;exact ⟨(λZ h=>aS h cR),rfl⟩
 ·have h:(match rC u a,inL a us with | some k,some j=>some (k || j) | _,_=>Option.none)=some k:=h;cases h1:rC u a with
  | none=>rw [h1] at h;exact nos h
  | some a'=>
  cases h2:inL a us with
  | none=>rw [h1,h2] at h;exact nos h
  | some b'=>
   rw [h1,h2] at h;cases h;obtain x02|p|q:=ih h2;refine ⟨mc ?_ p,?_⟩
   ·rw [ZM h1 hu];exact DK h1 hu ha
   ·rw [List.any_cons,q,ZM h1 hu]
theorem pU(st:StL U Y s r){a b:V}{x y:Value}(ha:VR Y a x)(hb:VR Y b y){res:Res Bool}{s':S}(h:inM a b s=some (res,s')):s'=s/\∃ k,res= .ok k/\InAt U r x y k:=by
 induction b with
 | str u=>induction a with
  | str x=>
   cases h;obtain x11|t|rfl:=ha;obtain x11|u|rfl:=hb;exact ⟨rfl,_,rfl,λQ E=>⟨λk=>PyProof.Rows.in_str (k r.toks),λk=>PyProof.Rows.notIn_str (k r.toks)⟩⟩
  | _=>exact nos h
 | ref β=>
  obtain x12|ay|Ch|rfl:=hb;refine GD h λo1 e1 h=>?_
  induction o1 with
  | list u=>
   obtain x13|Aj|g1|Du|Dv:=st.at e1 (ndd rfl) Ch;obtain x02|c1|z1:=Du;obtain x22|xs|n1|d1|r1:=Dv;obtain x13|k|hk|rfl|rfl:=TQ h;obtain x02|p|q:=oU U.A.in1 r ha hk r1;have q':xs.toArray.any (eqv a)=k:=by simpa using q
   exact ⟨rfl,_,rfl,λQ E=>⟨λz=>in_listAt (eqv a) (i13 Aj g1 c1 ⟨n1,d1⟩) (λy hy=>p y (List.mem_toArray.mp hy)) (by rw [q'];exact z r.toks),λz=>notIn_listAt (eqv a) (i13 Aj g1 c1 ⟨n1,d1⟩) (λy hy=>p y (List.mem_toArray.mp hy)) (by rw [q'];exact z r.toks)⟩⟩
  | tup u=>
   obtain x13|Aj|g1|c1|Dt:=st.at e1 (ndd rfl) Ch;obtain x22|xs|n1|d1|r1:=Dt;obtain x13|k|hk|rfl|rfl:=TQ h;obtain x02|p|q:=oU U.A.in1 r ha hk r1;have q':xs.toArray.any (eqv a)=k:=by simpa using q
   exact ⟨rfl,_,rfl,λQ E=>⟨λz=>in_tupleAt (eqv a) (i13 Aj g1 c1 ⟨n1,d1⟩) (λy hy=>p y (List.mem_toArray.mp hy)) (by rw [q'];exact z r.toks),λz=>notIn_tupleAt (eqv a) (i13 Aj g1 c1 ⟨n1,d1⟩) (λy hy=>p y (List.mem_toArray.mp hy)) (by rw [q'];exact z r.toks)⟩⟩
  | dict es ep=>
   obtain x14|Aj|g1|x1|Ds|nd:=st.at e1 (ndd rfl) Ch;obtain x12|xs|d1|r1:=Ds;refine KH h λhn h=>?_;rw [bY] at hn;cases h;have fin:∀ {T:Type} [DecidableEq T] (c:Enc U.prog U.G.w T) (k:T),a=c.enc k->InAt U r x (.ref ay) (IA a es).isSome:=by
    intro T _ c k hk;subst hk;have hs:(IA (c.enc k) es).isSome=(findBy c.knd.is xs.toArray k).isSome:=by
     have:=wF c hn.2 r1 k;cases h1:IA (c.enc k) es <;> cases h2:findBy c.knd.is xs.toArray k <;> rw [h1,h2] at this <;> first | rfl | exact this.elim
    have hm:r.heap.MapOf c.knd ay (λk=>findBy c.knd.is xs.toArray k):=i35 Aj xs.toArray ep g1 x1 d1 (FC c hn.2 r1) λZ=>rfl;rw [hs];exact λQ E=>⟨λz=>wpAny_in_of (c.val Y k x ha) (st.ne_mods Ch) hm (z _),λz=>wpAny_notIn_of (c.val Y k x ha) (st.ne_mods Ch) hm (z _)⟩
   refine ⟨rfl,_,rfl,?_⟩;rcases SL hn.1 with ⟨i,rfl⟩ | ⟨t,rfl⟩
   ·exact fin (encI _ _) i rfl
   ·exact fin (encS _ _) t rfl
  | _=>exact nos h
 | _=>exact nos h
theorem At.still{β:Type}{R:List Addr->Bool->β->Prop}{m:M Bool}{t:Sem β}(st:StL U Y s r)(h:∀ res s',m s=some (res,s')->s'=s/\∃ k,res= .ok k/\∀ (Q:β->Shared->Prop) (E:Value->Shared->Prop),(∀ b tk,R Y k b->Q b {r with toks:=tk})->wpAny (model U.prog U.G.w) U.A t Q E r):At U Y s r R m t:=by
 refine ⟨λQ E pe nn ok ex=>?_⟩;cases e:m s with
 | none=>exact aS e nn
 | some p=>
  obtain ⟨res,s'⟩:=p;obtain x02|rfl|Dr:=h res s' e;obtain x12|k|rfl|hk:=Dr;exact hk Q E λb tk rr=>ok k _ e Y b _ (Ext.refl Y) st.toks rr
theorem KE{β:Type}{m:M α}{f:α->β}{s s':S}{res:Res β}(h:(m >>=λa=>Pure.pure (f a)) s=some (res,s')):∃ r0,m s=some (r0,s')/\res=(match r0 with | .ok a=> .ok (f a) | .exc c=> .exc c):=by
 change M.bind m _ s=_ at h;unfold M.bind at h
 revert h;refine genI (m s) ?_;intro q h
 induction q with
 | none=>exact nos h
 | some q=>
  obtain ⟨res0,s1⟩:=q
  induction res0 <;> (cases h;exact i12 _ rfl rfl)
theorem jV(op:CmpOp)(hu:U.A.units < cLine){a b:V}{x y:Value}(ha:VR Y0 a x)(hb:VR Y0 b y):Sim U Y0 QO (cmpM op a b) (compareOp op x y):=by
 refine Sim.of_at λY s r ex st=>?_;have ha:=ha.mono ex;have hb:=hb.mono ex
 induction op with
 | Eq=>
  refine At.still st λres s' h=>?_;obtain x02|rfl|Dq:=kU hu st ha hb h;obtain x13|k|rfl|h1|u_:=Dq;exact ⟨rfl,k,rfl,λQ E z=>h1 _ _ E Q (z _ r.toks rfl)⟩
 | NotEq=>
  refine At.still st λres s' h=>?_;obtain x12|r0|h0|rfl:=KE h;obtain x02|rfl|Dp:=kU hu st ha hb h0;obtain x13|k|rfl|u_|h1:=Dp;exact ⟨rfl,!k,rfl,λQ E z=>h1 _ _ E Q (z _ r.toks rfl)⟩
 | Lt=>induction a with
  | int i=>induction b with
   | int j=>
    obtain x11|t|rfl:=ha;obtain x11|u|rfl:=hb;exact At.pure st λQ E k=>PyProof.Rows.lt_int (k _ r.toks rfl)
   | _=>exact At.fail
  | _=>exact At.fail
 | LtE=>induction a with
  | int i=>induction b with
   | int j=>
    obtain x11|t|rfl:=ha;obtain x11|u|rfl:=hb;exact At.pure st λQ E k=>PyProof.Rows.le_int (k _ r.toks rfl)
   | _=>exact At.fail
  | _=>exact At.fail
 | In=>
  refine At.still st λres s' h=>?_;obtain x02|rfl|Do:=pU st ha hb h;obtain x12|k|rfl|h1:=Do;exact ⟨rfl,k,rfl,λQ E z=>(h1 Q E).1 λtk=>z _ tk rfl⟩
 | NotIn=>
  refine At.still st λres s' h=>?_;obtain x12|r0|h0|rfl:=KE h;obtain x02|rfl|Dn:=pU st ha hb h0;obtain x12|k|rfl|h1:=Dn;exact ⟨rfl,!k,rfl,λQ E z=>(h1 Q E).2 λtk=>z _ tk rfl⟩
 | Is=>induction b with
  | none=>induction a with
   | none=>
    cases ha;cases hb;exact At.pure st λQ E k=>wpAny_is_plain rfl (k _ r.toks rfl)
   | int i=>
    cases hb;obtain x11|t|rfl:=ha;exact At.pure st λQ E k=>wpAny_is_plain rfl (k _ r.toks rfl)
   | _=>exact At.fail
  | _=>exact At.fail
 | IsNot=>induction b with
  | none=>induction a with
   | none=>
    cases ha;cases hb;exact At.pure st λQ E k=>wpAny_isNot_plain rfl (k _ r.toks rfl)
   | int i=>
    cases hb;obtain x11|t|rfl:=ha;exact At.pure st λQ E k=>wpAny_isNot_plain rfl (k _ r.toks rfl)
   | _=>exact At.fail
  | _=>exact At.fail
 | _=>exact At.fail
end
end
section
theorem vI(slice:Expr)(o i:Value):∃ ops,subscripted slice false o i=operate ops (getItem o i):=by
 cases slice with
 | Slice a b c p=>induction c <;> exact ⟨_,rfl⟩
 | _=>exact ⟨_,rfl⟩
theorem QF{s:Shared}{mY slice:Expr}{o i:Value}{Q:Value->Shared->Prop}{T id:String}(hT:s.TypeIs o T)(hl:typeLookup (.type T) "__getitem__"=pure (some (.builtin id)))
  (hg:wpAny (model prog w) A (getItem o i) Q E s):wpAny (model prog w) A (subscriptTail mY slice o i) Q E s:=by
 unfold subscriptTail;have fin:wpAny (model prog w) A (subscripted slice false o i) (λr s₃=>wpAny (model prog w) A (letTemporaryGo mY o r >>=λZ=>pure r) Q E s₃) E s:=by
  have go:∀ ops,wpAny (model prog w) A (operate ops (getItem o i)) (λr s₃=>wpAny (model prog w) A (letTemporaryGo mY o r >>=λZ=>pure r) Q E s₃) E s:=λops=>
   wpAny_operating (fG hg (λr s₃ h₃=>aA (wpAny_letTemporaryGo (aG h₃))) λZ Z x=>x)
  obtain x11|ops|e:=vI slice o i;rw [e];exact go ops
 refine aA ?_;rw [getitemInPython_of_ne hT.not_modules];refine aA (dW hT hl ?_);exact aG (aA fin)
theorem VsR.set(k:VsR Y vs xs){x:Value}(h:VR Y v x):∀ i:Nat,VsR Y (vs.set i v) (xs.set i x):=
 VsR.ind (p:=λvs xs=>∀ i:Nat,VsR Y (vs.set i v) (xs.set i x)) (λZ=>trivial) (λZ Z Z Z a b ih i=>by
  induction i using nCq with
  | zero=>exact ⟨h,b⟩
  | succ i=>exact ⟨a,ih i⟩) k
section
variable {T:Type} [DecidableEq T] (c:Enc prog w T)
theorem iH{xs:List DictEntry}(h:EsR w Y es xs)(hz:decide (es.length<=900)=true):xs.toArray.size<=sizeLine:=by
 have:=aX hz;rw [bU,<-h.length];exact aE (aE this (by decide)) FA
theorem vH{k:T}{xs:List DictEntry}(hl:uA (c.enc k) es=true)(h:EsR w Y es xs):(IA (c.enc k) es).isSome=(xs.find? λe=>c.knd.is k e.key).isSome:=by
 have:=JL c hl h k;cases h1:IA (c.enc k) es <;> cases h2:xs.find? (λe=>c.knd.is k e.key) <;> rw [h1,h2] at this <;> first | rfl | exact this.elim
theorem ME{k:T}{xs:List DictEntry}(hl:uA (c.enc k) es=true)(h:EsR w Y es xs)(hv:IA (c.enc k) es=some v):∃ u,findBy c.knd.is xs.toArray k=some u/\VR Y v u:=by
 have:=wF c hl h k;rw [hv] at this;cases h2:findBy c.knd.is xs.toArray k with
 | some u=>rw [h2] at this;exact i12 u rfl this
 | none=>rw [h2] at this;exact this.elim
theorem sQ{k:T}{xs:List DictEntry}(hl:uA (c.enc k) es=true)(h:EsR w Y es xs)(hs:(IA (c.enc k) es).isSome=true):∃ v,findBy c.knd.is xs.toArray k=some v:=by
 obtain x11|v|hv:=eI.mp hs;obtain x12|u|hu|u_:=ME c hl h hv;exact ⟨u,hu⟩
theorem zU{k:T}{key u:Value}{xs:List DictEntry}{ep:Nat}{o':Obj}(hl:uA (c.enc k) es=true)(Ae:KeyR w (c.enc k) key (c.knd.hash k))(hv:VR Y v u)(h:EsR w Y es xs)(nd:(es.map (·.1)).Nodup)(h2:o'.ExactDict)
  (h3:o'.data= .dict (putX (λe=>c.knd.is k e.key) u ⟨c.knd.hash k,key,u⟩ xs).toArray (if (xs.find? λe=>c.knd.is k e.key).isSome then ep else ep+1)):OR w Y (KX (c.enc k) v es ep) o':=by
 unfold KX;rw [vH c hl h];exact i03 h2 (i12 _ h3 (lU c Ae hv hl h)) (xG nd)
end
section
variable {U:Lev} {Y0:List Addr} {s:S} {r:Shared}
theorem At.dict{β:Type}{R:List Addr->α->β->Prop}{m:M α}{t:Sem β}{a:V}(ha:wD a=true)(h:∀ (T:Type) (_:DecidableEq T) (c:Enc U.prog U.G.w T) (k:T),a=c.enc k->At U Y s r R m t):At U Y s r R m t:=by
 rcases SL ha with ⟨i,rfl⟩ | ⟨x,rfl⟩
 ·exact h _ _ (encI _ _) i rfl
 ·exact h _ _ (encS _ _) x rfl
theorem si0{i:Int}(h0:0<=i)(h:i.toNat < n):seqIndex? i n=some i.toNat:=
 (aU (λj:Int=>if (decide (0<=j) && decide (j < n))=true then some j.toNat else none) (aJ (dG.mpr h0))).trans (aN (by rw [aF h0,Bool.true_and];exact aF ((Int.toNat_lt h0).mp h)))
theorem wM{i:Int}(h0:0<=i)(h:i.toNat < xs.length):seqIndex? i xs.toArray.size=some i.toNat:=by
 exact si0 h0 h
theorem BW{a b:V}{x y:Value}(ha:VR Y0 a x)(hb:VR Y0 b y)(mY slice:Expr):Sim U Y0 VR (GJ a b) (subscriptTail mY slice x y):=by
 refine Sim.of_at λY s r ex st=>?_;have hb:=hb.mono ex
 induction a with
 | ref n=>
  obtain x12|ax|Ah|rfl:=(ha.mono ex);refine At.geto λo ho=>?_
  induction o with
  | list vs=>
   induction b with
   | int i=>
    refine At.need λhn=>At.opt' λv hv=>At.pure st λQ E k=>?_;obtain x02|hn1|hn2:=aX hn;obtain x11|t|rfl:=hb;obtain x13|Aj|g1|Dt|Du:=st.at ho (ndd rfl) Ah;obtain x02|c1|z1:=Dt;obtain x22|xs|n1|d1|r1:=Du;obtain x12|u|hu|hr:=r1.get hv;exact QF (i12 Aj g1 c1) F.slot_list_getitem.lookup (wpAny_getItem_list (i13 Aj g1 c1 ⟨n1,d1⟩) hn1 (fB hn2 (by decide)) (by simpa using hu) (k u r.toks hr))
   | _=>exact At.fail
  | tup vs=>
   induction b with
   | int i=>
    refine At.need λhn=>At.opt' λv hv=>At.pure st λQ E k=>?_;obtain x02|hn1|hn2:=aX hn;obtain x11|t|rfl:=hb;obtain x13|Aj|g1|c1|Ds:=st.at ho (ndd rfl) Ah;obtain x22|xs|n1|d1|r1:=Ds;obtain x12|u|hu|hr:=r1.get hv;refine QF (i12 Aj g1 c1) PyProof.Rows.slot_tuple_getitem.lookup (PyProof.Rows.getItem_tuple (j:=i.toNat) (items:=xs.toArray) (i13 Aj g1 c1 ⟨n1,d1⟩) (bD (by decide) hn1) (fB hn2 (by decide)) ?_ (by simpa using hu) (k u r.toks hr));exact wM hn1 (aQ.mp hu).1
   | _=>exact At.fail
  | dict es ep=>
   refine At.need λhn=>At.opt' λv hv=>?_;rw [bY] at hn;refine At.dict hn.1 λT Z c k hk=>At.pure st λQ E kk=>?_;subst hk;obtain x14|Aj|g1|x1|Dr|nd:=st.at ho (ndd rfl) Ah;obtain x12|xs|d1|r1:=Dr;obtain x12|u|h2|hf:=ME c hn.2 r1 hv;exact QF (i12 Aj g1 x1.1) F.slot_dict_getitem.lookup (wpAny_getItem_of (c.val Y k y hb) (i35 Aj xs.toArray _ g1 x1 d1 (FC c hn.2 r1) λZ=>rfl) h2 (kk u _ hf))
  | _=>exact At.fail
 | _=>exact At.fail
theorem qH(o:Obj)(f):(o.mapSeq f).dict=o.dict:=by obtain ⟨c,d,dt,sl⟩:=o;induction dt <;> rfl
theorem MG(o:Obj)(f):(o.mapSeq f).slots=o.slots:=by obtain ⟨c,d,dt,sl⟩:=o;induction dt <;> rfl
theorem MF{s:Shared}{l:Addr}{o:Obj}{items:Array Value}{k:Int}{t:Tok}{v:Value}{Q:Unit->Shared->Prop}(ho:s.heap.get? l=some o)(hc:o.cls= .type "list")(hd:o.data= .seq items n)
  (h0:0<=k) (hfit:k < 2 ^ 63) (hn:k < items.size)
  (hQ:∀ h' o',h'.get? l=some o'->o'.cls= .type "list"->(o'.dict=o.dict/\o'.slots=o.slots)->(∃ n',o'.data= .seq (items.setIfInBounds k.toNat v) n')->Heap.SameBut l s.heap h'->Q () {s with heap:=h'}):
  wpAny (model prog w) A (setItem (.ref l) (.int k t) v) Q E s:=by
 have ht:s.TypeIs (.ref l) "list":=i12 o ho hc;unfold setItem;try with_reducible refine bT ?_
 refine aA (wpAny_sequenceKey ht (by decide) ?_);refine aA (wpAny_callSpecial?_slot (name:=Str.ofString "__setitem__") ht slot_list_setitem
  (dQ slot_list_setitem ht entry_list_setitem ?_ (args_list_setitem _ _ _)))
 show wpAny _ _ (Builtin.List.listSubscript? (.int k t) >>=_) _ _ s;refine aA (wpAny_listSubscript_int (fitsIndex_of h0 hfit) ?_);obtain x11|j|rfl:=Int.eq_ofNat_of_zero_le h0;have hj:j < items.size:=eG.mp hn;have hx':items[j]? =some items[j]:=Array.getElem?_eq_getElem hj;show wpAny _ _ ((seqItemAt l j >>=λr=>pure (r.map (j,·))) >>=_) _ _ s;refine aA (aA (wpAny_seqItemAt ho hd (aG ?_)));rw [hx'];show wpAny _ _ (setSeqItemAt l j v >>=_) _ _ s;obtain x11|n'|hd':=Obj.data_mapSeq hd (·.setIfInBounds j v);refine aA (wpAny_setSeqItemAt ho hd ?_);have fin:=hQ _ _ (cL (h:=s.heap) _ ho (Obj.isFreed_of_seq hd')) ((Obj.cls_mapSeq ..).trans hc) ⟨qH _ _,MG _ _⟩ ⟨n',hd'⟩ (Heap.SameBut.update ..);first
  | exact aA (aG (aG (i12 (.none) rfl (aG fin))))
  | exact aG ⟨.none,rfl,aG fin⟩
theorem sR{a b c:V}{x y z:Value}(ha:VR Y0 a x)(hb:VR Y0 b y)(hc:VR Y0 c z):Sim U Y0 (λZ Z Z=>True) (sD a b c) (setItem x y z):=by
 refine Sim.of_at λY s r ex st=>?_;have hb:=hb.mono ex;have hc:=hc.mono ex
 induction a with
 | ref n=>
  obtain x12|ax|Ah|rfl:=(ha.mono ex);refine At.geto λo ho=>?_;have hlen:=(aQ.mp ho).1
  induction o with
  | list vs=>
   induction b with
   | int i=>
    refine At.need λhn=>?_;obtain x03|hn1|hn2|hn3:=aX hn;obtain x11|t|rfl:=hb;obtain x13|Aj|g1|Dp|Dq:=st.at ho (ndd rfl) Ah;obtain x02|c1|z1:=Dp;obtain x22|xs|n1|d1|r1:=Dq;refine At.done (a:=()) (s':={s with h:=s.h.set _ (.list (vs.set i.toNat c))}) (by unfold GX;rw [aN hlen]) λQ E k=>?_;refine MF g1 c1 d1 hn1 (fB hn3 (by decide)) (by simpa [<-r1.length] using hn2) λh' Bm g2 c2 z2 d2 hs=>?_;refine k Y () _ (Ext.refl Y) (st.upd ho (ndd rfl) Ah (λb ob hb e=>hs.extBut b ob hb e) (.inr ?_)) trivial;obtain x11|n2|d2:=d2;refine i12 Bm g2 ⟨i03 c2 (z2.1.trans z1.1) (z2.2.trans z1.2),xs.set i.toNat z,n2,by rw [d2];simp,?_⟩;exact VsR.set r1 hc i.toNat
   | _=>exact At.fail
  | dict es ep=>
   refine At.need λhn=>?_;simp only [Bool.and_eq_true] at hn;refine At.dict hn.1.1 λT Z c k hk=>?_;subst hk;obtain x14|Aj|g1|x1|Do|nd:=st.at ho (ndd rfl) Ah;obtain x12|xs|d1|r1:=Do;refine At.done (a:=()) (s':={s with h:=s.h.set _ (KX (c.enc k) _ es ep)}) (by unfold GX;rw [aN hlen]) λQ E kk=>?_;refine VJ (c.val Y k y hb) g1 x1 d1 (FC c hn.1.2 r1) (λh' o' tk h1 h2 h3 h4=>?_) (iH r1 hn.2);refine kk Y () _ (Ext.refl Y) (st.upd ho (ndd rfl) Ah (λb ob hb e=>h4.extBut b ob hb e) (.inr ?_)) trivial;refine i12 o' h1 (zU c hn.1.2 (c.of k y (c.val Y k y hb)) hc r1 nd h2 h3)
  | _=>exact At.fail
 | _=>exact At.fail
theorem OP{a b:V}{x y:Value}(ha:VR Y0 a x)(hb:VR Y0 b y):Sim U Y0 (λZ Z Z=>True) (nD a b) (delItem x y):=by
 refine Sim.of_at λY s r ex st=>?_;have hb:=hb.mono ex
 induction a with
 | ref n=>
  obtain x12|ax|Ah|rfl:=(ha.mono ex);refine At.geto λo ho=>?_;have hlen:=(aQ.mp ho).1
  induction o with
  | dict es ep=>
   refine At.need λhn=>?_;simp only [Bool.and_eq_true] at hn;obtain x02|hn|hz:=hn;refine At.dict hn.1.1 λT Z c k hk=>?_;subst hk;obtain x14|Aj|g1|x1|Dn|nd:=st.at ho (ndd rfl) Ah;obtain x12|xs|d1|r1:=Dn;refine At.done (a:=()) (s':={s with h:=s.h.set _ (.dict (zB (c.enc k) es) (ep+1))}) (by unfold GX;rw [aN hlen]) λQ E kk=>?_;obtain x11|v|hv:=sQ c hn.1.2 r1 hn.2;have hT:r.TypeIs (.ref ax) "dict":=i12 Aj g1 x1.1;refine wpAny_delItem_slot hT (by decide) F.slot_dict_delitem (call_meetsIn F.slot_dict_delitem hT F.entry_dict_delitem (F.args_dict_delitem_2 _ _) (HH (c.val Y k y hb)) ?_);refine ⟨Aj,xs,ep,v,g1,x1,d1,FC c hn.1.2 r1,hv,?_,λh' o' tk h1 h2 h3 h4=>?_⟩
   ·exact iH r1 hz
   ·refine kk Y () _ (Ext.refl Y) (st.upd ho (ndd rfl) Ah (λb ob hb e=>h4.extBut b ob hb e) (.inr ?_)) trivial;exact i12 o' h1 ⟨h2,i12 _ h3 (XP c hn.1.2 r1),rH nd⟩
  | _=>exact At.fail
 | _=>exact At.fail
end
end
section
theorem vN(prog:Program)(w:World)(x:Str)(v:Value):v.isStr x=(strKind prog w).is x v:=by
 induction v <;> first | rfl | simp [Value.isStr,strKind,Value.isStrOf,beq_eq_decide]
theorem VR.hand{u:V}{x:Value}(h:wQ v=some u)(r:VR Y v x):u=v/\handedIn x=true:=by
 refine ⟨?_,?_⟩
 ·induction v <;> first | exact nos h | exact (Option.some.inj h).symm
 ·induction v with
  | bi i=>exact nos h
  | none=>cases r;rfl
  | bool b=>cases r;rfl
  | int i=>obtain x11|u_|rfl:=r;rfl
  | str i=>obtain x11|u_|rfl:=r;rfl
  | bytes i=>obtain x11|u_|rfl:=r;rfl
  | ref n=>obtain x12|a|u_|rfl:=r;rfl
  | glob a=>cases r;rfl
  | ty n=>cases r;rfl
section
variable {G:Ground} {C:Addr} {kp:Kept} {s:S} {r:Shared}
theorem xN(prog:Program){name:Str}{xs:List DictEntry}{od:Obj}(hl:uA (.str name) es=true)(h:EsR w Y es xs)(hd:od.data= .dict xs.toArray n):
  ∃ y,lookIn name od=some y/\OptR Y (IA (.str name) es) y:=by
 have f:=JL (encS prog w) (j:=name) hl h name;have k:=KL (encS prog w) (j:=name) hl h;have e1:∀ e:DictEntry,e.key.isStr name=(encS prog w).knd.is name e.key:=λe=>vN prog w name e.key;unfold lookIn;rw [hd];simp only [e1];cases hf:xs.find? (λe=>(encS prog w).knd.is name e.key) with
 | some e=>rw [hf] at f;exact i12 (some e.val) rfl f
 | none=>
  rw [hf] at f;refine i12 none ?_ f;dsimp only;rw [aJ];rw [gI];intro ii;obtain x12|e|he|hr:=ii;obtain x12|j|hj|u_:=k e he;obtain x11|t|ht:=Value.isStrOf_shape hj;unfold DictEntry.refKey at hr;rw [ht] at hr;cases hr
theorem St.inst(x:St G C kp Y s r){a:Nat}{D:Addr}{ax:Addr}(h1:s.h[a]? =some (.inst D d))(h2:s.h[d]? =some (.dict es n))(ea:Y[a]? =some ax):
  ∃ dx od xs,Y[d]? =some dx/\r.heap.get? dx=some od/\InstAt r.heap ax (instObj D dx) D (some od)/\od.ExactDict/\od.data= .dict (List.toArray xs) n/\EsR G.w Y es xs/\(es.map (·.1)).Nodup:=by
 obtain x12|ob|g1|Du:=x.at h1 (ndd rfl) ea;obtain x12|dx|e1|rfl:=Du;obtain x14|od|g2|x2|Dt|nd:=x.at h2 (ndd rfl) e1;obtain x12|xs|d2|r2:=Dt;exact i37 dx od xs e1 g2 ⟨g1,rfl,rfl,g2⟩ x2 d2 r2 nd
end
section
variable {U:Lev} {Y0:List Addr}
theorem At.some_of{β:Type}{R:List Addr->α->β->Prop}{t:Sem β}{f:Option Value->M α}{o:Option (Option Value)}(h:∀ a,o=some a->At U Y s r R (f a) t):At U Y s r R (match (generalizing:=false) o with | some a=>f a | _=>EX) t:=by
 induction o with
 | none=>exact At.fail
 | some a=>exact h a rfl
theorem vQ(W:Wd U.G K){a:V}{x:Value}(ha:VR Y0 a x)(name:Str)(expr:Bool):Sim U Y0 VR (AF K a name) (getAttr x name expr):=by
 refine Sim.of_at λY s r ex st=>?_;have ha:=ha.mono ex
 induction a with
 | ref n=>
  obtain x12|ax|Ah|rfl:=ha;refine At.geto λo ho=>?_
  induction o with
  | inst C d=>
   refine At.geto λo2 ho2=>?_
   induction o2 with
   | dict es n=>
    dsimp only;refine At.some_of λattr hat=>?_
    ·refine At.need λhn=>At.opt' λv hv=>At.pure st λQ E k=>?_;simp only [Bool.and_eq_true] at hn;obtain x02|Ds|n4:=hn;obtain x02|Dw|n3:=Ds;obtain x02|n1|n2:=Dw;obtain x33|dx|od|xs|e1|g2|Dr:=st.inst ho ho2 Ah;obtain x05|I|x2|d2|r2|nd:=Dr;obtain x12|y|hy|hr:=xN U.prog n4 r2 d2;obtain x12|v0|hv0|hv1:=bX.mp hv;rw [hv0] at hr
     induction y with
     | none=>exact hr.elim
     | some y=>
      obtain x02|rfl|hh:=VR.hand hv1 hr;exact get_value (W.X.keeps st.base) I (plainGet_of n1).1 (findObj_own n2 hat n3 hy) hh (k y _ hr)
   | _=>exact At.fail
  | _=>exact At.fail
 | _=>exact At.fail
theorem NI(prog:Program){name:Str}{u:Value}{xs:List DictEntry}{ep:Nat}{od:Obj}(hl:uA (.str name) es=true)(hv:VR Y v u)(h:EsR w Y es xs)(nd:(es.map (·.1)).Nodup)
  (hx:od.ExactDict) (hd:od.data= .dict xs.toArray ep):OR w Y (KX (.str name) v es ep) (Obj.putName name (hashStr w name) (.str name tk) u od):=by
 obtain ⟨cls,dd,dt,sl⟩:=od;obtain x03|h1|h2|h3:=hx;dsimp only at h1 h2 h3 hd;subst h1 h2 h3 hd;have e1:(λe:DictEntry=>e.key.isStr name)=λe=>(encS prog w).knd.is name e.key:=funext λe=>vN prog w name e.key;have pr:=lU (encS prog w) (k:=name) (j:=name) (key:= .str name tk) (u:=u) (v:=v) ⟨⟨tk,rfl⟩,rfl⟩ hv hl h;rw [Obj.putName_eq];unfold Obj.putNameByArray KX;dsimp only;rw [List.findIdx?_toArray,e1];have fs:=vH (encS prog w) (k:=name) hl h;have fs':(IA (V.str name) es).isSome=(xs.find? λe=>(encS prog w).knd.is name e.key).isSome:=fs;have hh:(encS prog w).knd.hash name=hashStr w name:=rfl;cases hi:xs.findIdx? (λe=>(encS prog w).knd.is name e.key) with
 | some i=>
  have hs:(xs.find? λe=>(encS prog w).knd.is name e.key).isSome=true:=by
   rw [List.find?_isSome];obtain x12|hl|hp|u_:=fD.mp hi;exact i12 (xs[i]) (List.getElem_mem hl) hp
  rw [fs',aN hs];refine i03 (i03 rfl rfl rfl) (i12 _ ?_ pr) (xG nd);simp only [List.modify_toArray];rw [<-WK hi]
 | none=>
  have hs:(xs.find? λe=>(encS prog w).knd.is name e.key).isSome=false:=by
   rw [fY];intro z;rw [List.find?_isSome] at z;obtain x12|e|he|hp:=z;have:=gD.mp hi e he;rw [this] at hp;cases hp
  rw [fs',hs];refine i03 (i03 rfl rfl rfl) (i12 _ ?_ pr) (xG nd);simp only [List.push_toArray,hh];rw [VK (v:=u) hi];rfl
theorem WS{R:Result->Shared->Prop}{s:Shared}{x C dx:Addr}{od:Obj}{name:Str}{v:Value}{xs:List DictEntry}(X:K.In s.heap)
  (I:InstAt s.heap x (instObj C dx) C (some od)) (hp:plainOver K C=true) (ht:takerIn K C name=some none) (hh:hasDictIn K C=true) (D:s.heap.get? dx=some od) (hd:od.data= .dict xs.toArray n) (hr:xs.toArray.any (·.refKey)=false)
  (D':(s.heap.update dx (Obj.putName name (hashStr w name) (.str name s.toks) v)).get? dx=some (Obj.putName name (hashStr w name) (.str name s.toks) v od)) (hl:(Obj.putName name (hashStr w name) (.str name s.toks) v od).data.pastItsLine=none)
  (h:R (.ok (.ret .none)) {s with heap:=s.heap.update dx (Obj.putName name (hashStr w name) (.str name s.toks) v),toks:=s.toks+1}):
  codeAny (model prog w) A (.call (.builtin "object.__setattr__") ⟨[.ref x,.str name tk,v],[]⟩) R s:=by
 obtain x12|cd|hc|hd':=any_some hh;refine osa_open X I hp ht λb=>?_;refine aA (aG (aA (aA (wpAny_loadPart I.at_ (aA ((looks_clsIn X hc).here ?_))))));rw [hd'];refine aG (a:=some dx) (aA (aG (aA ?_)));unfold nsSet;refine aA (aA (wpAny_askSetting (aG (aA (wpAny_mkText (aA (wpAny_loadPart D ?_)))))));rw [hd];dsimp only;have c:(!xs.toArray.any (·.key.isStr name) && xs.toArray.any (·.refKey))=false:=by rw [hr,Bool.and_false]
 rw [aRefKeyMayBeTheName_at,c];refine wpAny_updatePart D ?_;exact aA (wpAny_lookBehind D' hl (aG h))
theorem rR(W:Wd U.G K){a b:V}{x y:Value}(ha:VR Y0 a x)(hb:VR Y0 b y)(name:Str):Sim U Y0 (λZ Z Z=>True) (GE K a name b) (setAttr x name y):=by
 refine Sim.of_at λY s r ex st=>?_;have ha:=ha.mono ex;have hb:=hb.mono ex
 induction a with
 | ref m=>
  obtain x12|ax|Ah|rfl:=ha;refine At.geto λo ho=>?_
  induction o with
  | inst C d=>
   refine At.geto λo2 ho2=>?_
   induction o2 with
   | dict es n=>
    refine At.need λhn=>?_;simp only [Bool.and_eq_true,beq_iff_eq] at hn;obtain x02|Dq|n6:=hn;obtain x02|Dv|n5:=Dq;obtain x02|Dx|n4:=Dv;obtain ⟨⟨n1,n2⟩,n3⟩:=Dx;have hlen:=(aQ.mp ho2).1;obtain x33|dx|od|xs|e1|g2|Dp:=st.inst ho ho2 Ah;obtain x05|I|x2|d2|r2|nd:=Dp;have X:=W.X.keeps st.base;refine At.done (a:=()) (s':={s with h:=s.h.set d (KX (.str name) b es n)}) (by unfold GX;rw [aN hlen]) λQ E k=>?_;have OD:=NI (w:=U.G.w) U.prog (tk:=r.toks+1) n5 hb r2 nd x2 d2;have hf:(Obj.putName name (hashStr U.G.w name) (.str name (r.toks+1)) y od).isFreed=false:=by
     obtain x03|u_|Do|u_:=OD;obtain x12|xs'|h'|u_:=Do;exact Obj.isFreed_of_dict h'
    have D':=cL (h:=r.heap) (a:=dx) (Obj.putName name (hashStr U.G.w name) (.str name (r.toks+1)) y) g2 hf;have Af:(putK (.str name) b es).length<=901:=by
     exact aE (KD ..) (bP (aX n6))
    refine set_plain X I n1 (WS (s:={r with toks:=r.toks+1}) X I n2 n3 n4 g2 d2 ?_ D' ?_ ?_)
    ·rw [fY];intro z;simp only [List.any_toArray,List.any_eq_true] at z;obtain x12|e|he|hr:=z;obtain x12|j|hj|u_:=KL (encS U.prog U.G.w) (j:=name) n5 r2 e he;obtain x11|t|ht:=Value.isStrOf_shape hj;unfold DictEntry.refKey at hr;rw [ht] at hr;cases hr
    ·obtain x03|u_|Dn|u_:=OD;obtain x12|xs'|h'|hr':=Dn;rw [h'];refine pastItsLine_dict ?_;rw [bU,<-hr'.length];exact aE Af (aE (by decide) (aE FA (cE _)))
    ·refine k Y () _ (Ext.refl Y) (st.upd ho2 (ndd rfl) e1 (λq ob hq e=>?_) (.inr (i12 _ D' OD))) trivial;exact (gK _ _ _ _ hq).trans e
   | _=>exact At.fail
  | _=>exact At.fail
 | _=>exact At.fail
end
end
theorem sE:Slot "bytes" "join" "bytes.join":=
 .of (owner:="bytes") (n:="join") (by rw [typeLookup_type,builtinLookup_eq_fast];kernel_rfl) (by decide+kernel) (by decide+kernel) (by decide+kernel)
  (by first | exact .inl (by decide+kernel) | exact .inr (by decide+kernel)) (by rw [isSubtype_type];kernel_rfl)
theorem YH:typeOf (.builtin "bytes.join")=pure (.type "method_descriptor"):=by show builtinType _=_;rw [builtinType_eq_fast];kernel_rfl
theorem OG:entryFor table "bytes.join"=some Builtin.«bytes.join»:=entryFor_of_tree (by kernel_rfl)
theorem YF(a b:Value):argsOk "bytes.join" ⟨[a,b],[]⟩:=by
 unfold argsOk;rw [signature?_of (id:="bytes.join") (n:= ['n','i','o','j']) (o:= ['s','e','t','y','b']) (by kernel_rfl) FB.owner_bytes];kernel_rfl
section
def rL(Y:List Addr)(a:V×List V)(b:Value×List Value):Prop:=VR Y a.1 b.1/\VsR Y a.2 b.2
section
variable {U:Lev} {Y0:List Addr}
theorem At.fn_of{β:Type}{R:List Addr->α->β->Prop}{t:Sem β}{f:Addr->M α}{o:Option (Option Value)}(h:∀ a,o=some (some (.ref a))->At U Y s r R (f a) t):At U Y s r R (match (generalizing:=false) o with | some (some (.ref f'))=>f f' | _=>EX) t:=by
 induction o with
 | none=>exact At.fail
 | some o=>induction o with
  | none=>exact At.fail
  | some v=>induction v with
   | ref a=>exact h a rfl
   | _=>exact At.fail
theorem TS(W:Wd U.G K){a:V}{x:Value}(ha:VR Y0 a x)(name:Str)(pl:Sem Bool):Sim U Y0 rL (WC K a name) (getMethod x name pl):=by
 refine Sim.of_at λY s r ex st=>?_;have ha:=ha.mono ex
 induction a with
 | str sx=>
  obtain x11|t|rfl:=ha;show At U Y s r rL (if name="join" then Pure.pure (V.bi "str.join",[V.str sx]) else if name="split" then Pure.pure (V.bi "str.split",[V.str sx]) else EX) _;have L:∀ {name:Str} {id:String},Slot "str" name id->typeOf (.builtin id)=pure (.type "method_descriptor")->At U Y s r rL (Pure.pure (V.bi id,[V.str sx])) (getMethod (.str sx t) name pl):=λslot ty=>
   At.pure st λQ E k=>getMethod_builtin (typeIs_str r sx t) PySem.F.plainAttrs_str slot ty (λZ e=>nomatch e) (k _ r.toks ⟨rfl,⟨t,rfl⟩,trivial⟩)
  refine At.ite (λhn=>?_) λZ=>At.ite (λhn=>?_) λZ=>At.fail
  ·rw [hn];exact L PySem.F.slot_str_join PySem.F.type_str_join
  ·rw [hn];exact L PySem.F.slot_str_split PySem.F.type_str_split
 | bytes sx=>
  obtain x11|t|rfl:=ha;show At U Y s r rL (if name="join" then Pure.pure (V.bi "bytes.join",[V.bytes sx]) else EX) _;have L:∀ {name:Str} {id:String},Slot "bytes" name id->typeOf (.builtin id)=pure (.type "method_descriptor")->At U Y s r rL (Pure.pure (V.bi id,[V.bytes sx])) (getMethod (.bytes sx t) name pl):=λslot ty=>
   At.pure st λQ E k=>getMethod_builtin (typeIs_bytes r sx t) FB.plainAttrs_bytes slot ty (λZ e=>nomatch e) (k _ r.toks ⟨rfl,⟨t,rfl⟩,trivial⟩)
  refine At.ite (λhn=>?_) λZ=>At.fail;rw [hn];exact L sE YH
 | ref n=>
  obtain x12|ax|Ah|rfl:=ha;refine At.geto λo ho=>?_
  induction o with
  | list vs=>
   obtain x13|Aj|g1|Dq|Dr:=st.at ho (ndd rfl) Ah;obtain x02|c1|z1:=Dq;obtain x22|xs|n1|d1|r1:=Dr;have L:∀ {name:Str} {id:String},Slot "list" name id->typeOf (.builtin id)=pure (.type "method_descriptor")->At U Y s r rL (Pure.pure (V.bi id,[V.ref _])) (getMethod (.ref ax) name pl):=λslot ty=>
    At.pure st λQ E k=>getMethod_builtin (i12 Aj g1 c1) PySem.F.plainAttrs_list slot ty (λZ e=>by cases e;exact i12 _ g1 z1.1) (k _ r.toks ⟨rfl,i12 ax Ah rfl,trivial⟩)
   refine At.ite (λhn=>?_) λZ=>At.ite (λhn=>?_) λZ=>At.ite (λhn=>?_) λZ=>At.fail
   ·rw [hn];exact L PySem.F.slot_list_append PySem.F.type_list_append
   ·rw [hn];exact L PySem.F.slot_list_insert PySem.F.type_list_insert
   ·rw [hn];exact L PySem.F.slot_list_pop PySem.F.type_list_pop
  | dict es ep=>
   obtain x14|Aj|g1|x1|Dp|nd:=st.at ho (ndd rfl) Ah;obtain x12|xs|d1|r1:=Dp;have L:∀ {name:Str} {id:String},Slot "dict" name id->typeOf (.builtin id)=pure (.type "method_descriptor")->At U Y s r rL (Pure.pure (V.bi id,[V.ref _])) (getMethod (.ref ax) name pl):=λslot ty=>
    At.pure st λQ E k=>getMethod_builtin (i12 Aj g1 x1.1) PySem.F.plainAttrs_dict slot ty (λZ e=>by cases e;exact i12 _ g1 x1.2.1) (k _ r.toks ⟨rfl,i12 ax Ah rfl,trivial⟩)
   refine At.ite (λhn=>?_) λZ=>At.ite (λhn=>?_) λZ=>At.fail
   ·rw [hn];exact L PySem.F.slot_dict_get PySem.F.type_dict_get
   ·rw [hn];exact L PySem.F.slot_dict_pop PySem.F.type_dict_pop
  | inst C d=>
   refine At.geto λo2 ho2=>?_
   induction o2 with
   | dict es n=>
    refine At.fn_of λf hf=>?_
    ·refine At.need λhn=>At.pure st λQ E k=>?_;simp only [Bool.and_eq_true,Bool.not_eq_true'] at hn;obtain x02|Do|n4:=hn;obtain x02|Ds|n3:=Do;obtain x02|n1|n2:=Ds;obtain x33|dx|od|xs|e1|g2|Dn:=st.inst ho ho2 Ah;obtain x05|I|x2|d2|r2|nd:=Dn;obtain x12|y|hy|hr:=xN U.prog n4 r2 d2;refine method_fn (W.X.keeps st.base) I (plainGet_of n1).1 (plainGet_of n1).2 hf (beq_iff_eq.mp n2) ?_ (k _ r.toks ⟨rfl,i12 ax Ah rfl,trivial⟩);unfold shadowIn;unfold sN at n3;show (lookIn name od).map _=_;rw [hy]
     induction y with
     | none=>rfl
     | some y=>
      cases hk:IA (.str name) _ with
      | none=>rw [hk] at hr;exact hr.elim
      | some z=>rw [hk] at n3;cases n3
   | _=>exact At.fail
  | _=>exact At.fail
 | _=>exact At.fail
end
end
section
theorem Sim.assoc{β γ δ:Type}{U:Lev}{Y0:List Addr}{R:List Addr->α->δ->Prop}{m:M α}{t:Sem β}{f:β->Sem γ}{g:γ->Sem δ}(h:Sim U Y0 R m (t >>=λa=>f a >>=g)):Sim U Y0 R m ((t >>=f) >>=g):=by
 rw [LawfulMonad.bind_assoc];exact h
theorem VsR.pick(h:VsR Y vs xs):∀ l:List Nat,VsR Y (l.filterMap (vs[·]?)) (l.filterMap (xs.toArray[·]?)):=by
 intro l
 induction l with
 | nil=>exact trivial
 | cons i l ih=>
  have ih:=ih;rw [dS,dS];cases e:vs[i]? with
  | some v=>
   obtain x12|y|hy|hr:=h.get e;have hy':xs.toArray[i]? =some y:=by simpa using hy
   rw [hy'];exact ⟨hr,ih⟩
  | none=>
   have:xs.toArray[i]? =none:=by
    have:=dN.mp e;rw [h.length] at this;simpa using this
   rw [this];exact ih
theorem VsR.drop(h:VsR Y vs xs):∀ n:Nat,VsR Y (vs.drop n) (xs.drop n):=
 VsR.ind (p:=λvs xs=>∀ n:Nat,VsR Y (vs.drop n) (xs.drop n)) (λn=>by induction n using nCq <;> exact trivial) (λZ Z Z Z a b ih n=>by
  induction n using nCq with
  | zero=>exact ⟨a,b⟩
  | succ n=>exact ih n) h
theorem SJ{x:Value}{o:Option Int}(h:PH v=some o)(hv:VR Y v x):IsPart x o:=by
 induction v with
 | none=>cases h;cases hv;exact .none
 | int i=>cases h;obtain x11|t|rfl:=hv;exact .int _ _
 | _=>exact nos h
section
variable {U:Lev} {Y0:List Addr}
theorem At.weak{β:Type}{R:List Addr->α->β->Prop}{m:M α}{t:Sem β}{s:S}{r r':Shared}{u:Sem β}(h:At U Y s r' R m t)(k:∀ (Q:β->Shared->Prop) (E:Value->Shared->Prop),wpAny (model U.prog U.G.w) U.A t Q E r'->wpAny (model U.prog U.G.w) U.A u Q E r):At U Y s r R m u:=
 ⟨λQ E pe nn ok ex=>k Q E (h.go Q E pe nn ok ex)⟩
theorem At.parts_of{β:Type}{R:List Addr->α->β->Prop}{t:Sem β}{a b c:Option (Option Int)}{f:Option Int->Option Int->Option Int->M α}(h:∀ x y z,a=some x->b=some y->c=some z->At U Y s r R (f x y z) t):
  At U Y s r R (match (generalizing:=false) a,b,c with | some x,some y,some z=>f x y z | _,_,_=>EX) t:=by
 induction a with
 | none=>exact At.fail
 | some x=>induction b with
  | none=>exact At.fail
  | some y=>induction c with
   | none=>exact At.fail
   | some z=>exact h x y z rfl rfl rfl
theorem EV{a l u t:V}{x y z w:Value}(ha:VR Y0 a x)(hl:VR Y0 l y)(hu:VR Y0 u z)(ht:VR Y0 t w)(mY slice:Expr)(pos:Pos):Sim U Y0 VR (TH a l u t) (newFields "slice" [y,z,w] >>=λi=>standAt pos >>=λZ=>subscriptTail mY slice x i):=by
 refine Sim.of_at λY s r ex st=>?_;have ha:=ha.mono ex;refine At.parts_of λlo hi sp e1 e2 e3=>?_
 ·have p1:=SJ e1 hl;have p2:=SJ e2 hu;have p3:=SJ e3 ht;refine At.weak (t:=subscriptTail mY slice x (.ref r.heap.objs.size)) (r':={r with heap:=r.heap.push {cls:= .type "slice",data:= .fields #[y,z,w]}}) ?_ λQ E k=>?_
  ·have st':StL U Y s {r with heap:=r.heap.push {cls:= .type "slice",data:= .fields #[y,z,w]}}:=st.keeps (tk:=r.toks) (d:=r.drawn) λb o e=>aM _ e
   induction a with
   | bytes b=>
    refine At.need λhn=>At.pure st' λQ E k=>?_;obtain x11|t0|rfl:=ha;simp only [Bool.and_eq_true,decide_eq_true_eq,Bool.not_eq_true'] at hn;obtain x02|Dt|hn2:=hn;obtain x02|rfl|hn1:=Dt;cases p3;refine QF (typeIs_bytes _ _ _) FB.slot_bytes_getitem.lookup ?_;refine getItem_meets (typeIs_bytes _ _ _) (by decide) FB.slot_bytes_getitem FB.entry_bytes_getitem (FB.args_bytes_getitem_2 _ _) (KBy.meets_slice b t0 _ p1 p2 hn2) (i03 (Heap.IsSliceOf.new _ _ _ _) ?_ (k _ _ ⟨_,rfl⟩));exact aE (KBc.size_picked_le _ _ _) (aE hn1 FA)
   | ref n=>
    obtain x12|ax|Ah|rfl:=ha;refine At.geto λo ho=>?_
    induction o with
    | list vs=>
     refine At.need λhn=>?_;obtain x02|hn1|hn2:=aX hn;obtain x13|Aj|g1|Dr|Ds:=st'.at ho (ndd rfl) Ah;obtain x02|c1|z1:=Dr;obtain x22|xs|n1|d1|r1:=Ds;refine At.done (a:= .ref s.h.length) (s':={s with h:=s.h++ [.list (YE vs lo hi sp)]}) rfl λQ E k=>?_;refine QF (i12 Aj g1 c1) F.slot_list_getitem.lookup ?_;refine wpAny_getItem_list_slice (i13 Aj g1 c1 ⟨n1,d1⟩) (Heap.IsSliceOf.new _ _ _ _) p1 p2 p3 hn1 ?_ (by rw [bU,<-r1.length];exact aE hn2 FA);refine k (Y++ [_]) _ _ (Ext.one _ _) (st'.alloc (tk:=r.toks) (λb o e=>aM _ e) Heap.fresh_none (bC _ rfl) ⟨i03 rfl rfl rfl,_,0,rfl,?_⟩ (aV st'.big)) (i12 _ (by rw [<-st.len];simp) rfl);have:=(r1.mono (Ext.one Y (r.heap.push {cls:= .type "slice",data:= .fields #[y,z,w]}).objs.size)).pick (sliceRange (sliceBounds lo hi sp vs.length).1 (sliceBounds lo hi sp vs.length).2.1 (sliceBounds lo hi sp vs.length).2.2);simp only [List.size_toArray];rw [<-r1.length];exact this
    | _=>exact At.fail
   | _=>exact At.fail
  ·exact aA (fZ (aA (dP k)))
end
theorem ZJ{M:Model}{s:Shared}{c:Prop} [Decidable c]{a b:Sem α}{Q:α->Shared->Prop}(hc:c)(h:wpAny M A a Q E s):wpAny M A (if c then a else b) Q E s:=by rw [aN hc];exact h
theorem IT{M:Model}{s:Shared}{c:Prop} [Decidable c]{a b:Sem α}{Q:α->Shared->Prop}(hc:¬ c)(h:wpAny M A b Q E s):wpAny M A (if c then a else b) Q E s:=by rw [aJ hc];exact h
theorem ZK{s:Shared}{l sl b:Addr}{o ob:Obj}{items ys:Array Value}{nb:Nat}{vu:Value}{k:Int}{Q:Unit->Shared->Prop}(ho:s.heap.get? l=some o)(hc:o.cls= .type "list")(hd:o.data= .seq items n)
  (hs:s.heap.IsSliceOf sl .none vu .none) (pu:IsPart vu (some k)) (h0:0<=k) (hk:k.toNat<=items.size) (hb:s.heap.get? b=some ob) (hbc:ob.cls= .type "list") (hbd:ob.data= .seq ys nb) (hne:l≠b) (Af:items.size+ys.size<=100000)
  (hQ:∀ h' o',h'.get? l=some o'->o'.cls= .type "list"->(o'.dict=o.dict/\o'.slots=o.slots)->(∃ n',o'.data= .seq (ys++items.extract k.toNat items.size) n')->Heap.SameBut l s.heap h'->Q () {s with heap:=h'}):
  wpAny (model prog w) A (setItem (.ref l) (.ref sl) (.ref b)) Q E s:=by
 have hl:s.TypeIs (.ref l) "list":=i12 o ho hc;obtain x13|os|hos|hcs|hds:=id hs;have hTs:s.TypeIs (.ref sl) "slice":=i12 os hos hcs;unfold setItem;try with_reducible refine bT ?_
 refine aA (wpAny_sequenceKey hl (by decide) ?_);refine aA (wpAny_callSpecial?_slot (name:=Str.ofString "__setitem__") hl slot_list_setitem
  (dQ slot_list_setitem hl entry_list_setitem ?_ (args_list_setitem _ _ _)))
 show wpAny _ _ (Builtin.List.listSubscript? (.ref sl) >>=_) _ _ s;refine aA ?_;unfold Builtin.List.listSubscript?;refine aA (dW hTs slice_no_index ?_);refine ZJ rfl (aG ?_);show wpAny _ _ (typeOf (.ref sl) >>=_) _ _ s;refine aA (wpAny_typeOf hTs ?_);rw [aJ (by decide),listSliceParts_eq];refine aA (aA (gM hos hds (x:= .none) rfl (aA (wpAny_listPart .none ?_))));rw [aJ (show ¬ ((rawPart none==rawInt 0)=true) from aW)];refine aA (gM hos hds (x:= .none) rfl (aA (wpAny_listPart .none ?_)));refine aA (gM hos hds (x:=vu) rfl (aA (wpAny_listPart pu (aG ?_))));have hsame:Builtin.List.listSameRef (.ref l) (.ref b)=false:=by unfold Builtin.List.listSameRef;simpa using hne
 dsimp only;rw [hsame];refine aA (m:=Builtin.List.listAllItems (.ref b) _) ?_;unfold Builtin.List.listAllItems;refine aA (wpAny_typeOf (i12 ob hb hbc) ?_);rw [aN (by decide)];refine wpAny_listItems hb hbd ?_;refine aA (m:=Builtin.List.listItems (.ref l)) (wpAny_listItems ho hd ?_);refine aA (eN (sliceIndices_raw none (some k) none items.size (λh=>nos h)) ?_);have e1:(sliceBounds none (some k) none items.size).1=0:=rfl;have e2:(sliceBounds none (some k) none items.size).2.1=k:=by
  simp only [sliceBounds,Option.getD_none];rw [aN (by decide)];rw [aJ (dG.mpr h0),gU (Int.toNat_le.mp hk),eO h0]
 have e3:(sliceBounds none (some k) none items.size).2.2=1:=rfl
 revert e1 e2 e3;refine genI (sliceBounds none (some k) none items.size) ?_;intro sb e1 e2 e3
 obtain ⟨b1,b2,b3⟩:=sb;dsimp only at e1 e2 e3;subst e1 e3;rw [e2];clear e2;dsimp only;rw [aN (by decide)];refine aA (wpAny_rule ?_);rw [aJ (by
  unfold Builtin.List.listTooLong;exact λh=>aS (aX h) (cB.mpr (aE Af FA)))]
 have hm:(max 0 k).toNat=k.toNat:=by rw [eO h0]
 rw [hm];obtain x11|n'|hd':=Obj.data_mapSeq hd λxs=>xs.extract 0 (Int.toNat 0)++ys++xs.extract k.toNat xs.size;have fin:=hQ _ _ (cL (h:=s.heap) _ ho (Obj.isFreed_of_seq hd')) ((Obj.cls_mapSeq ..).trans hc) ⟨qH _ _,MG _ _⟩ ⟨n',by rw [hd'];simp⟩ (Heap.SameBut.update ..);show wpAny _ _ (Builtin.List.listUpdate (.ref l) _ >>=_) _ _ s;unfold Builtin.List.listUpdate;have hz:=aE Af FA;refine aA (wpAny_updateSeq ho hd (aA (wpAny_letGo ?_)) (aE (bM ..) hz) ?_)
 ·exact aG (i12 (.none) rfl (aG fin))
 ·simp;exact cM (aE (fK .. ▸cQ (gP ..) _) hz)
section
variable {U:Lev} {Y0:List Addr}
theorem sT{a l u:V}{x y z q:Value}{pos:Pos}{hs:Value->List Value}(ha:VR Y0 a x)(hl:VR Y0 l y)(hu:VR Y0 u z)(hv:VR Y0 v q):Sim U Y0 (λZ Z Z=>True) (ZE a l u v) (newFields "slice" [y,z,.none] >>=λi=>standAt pos >>=λZ=>holding (hs i) (setItem x i q)):=by
 refine Sim.of_at λY s r ex st=>?_;have ha:=ha.mono ex;have hv:=hv.mono ex
 induction a with
 | ref n=>induction l with
  | none=>induction u with
   | int k=>induction v with
    | ref c=>
     obtain x12|ax|Ah|rfl:=ha;obtain x12|bx|ebx|rfl:=hv;cases hl;refine At.weak (t:=setItem (.ref ax) (.ref r.heap.objs.size) (.ref bx)) (r':={r with heap:=r.heap.push {cls:= .type "slice",data:= .fields #[.none,z,.none]}}) ?_ λQ E k=>?_
     ·have st':StL U Y s {r with heap:=r.heap.push {cls:= .type "slice",data:= .fields #[.none,z,.none]}}:=st.keeps (tk:=r.toks) (d:=r.drawn) λb o e=>aM _ e;refine At.geto λo ho=>?_
      induction o with
      | list vs=>
       refine At.geto λo2 ho2=>?_
       induction o2 with
       | list ws=>
        refine At.need λhn=>?_;obtain x05|hn1|hn2|hn3|hn4|hn5:=aX hn;have hlen:=(aQ.mp ho).1;obtain x13|Aj|g1|Dp|Dq:=st'.at ho (ndd rfl) Ah;obtain x02|c1|z1:=Dp;obtain x22|xs|n1|d1|r1:=Dq;obtain x13|Bm|g2|Dn|Do:=st'.at ho2 (ndd rfl) ebx;obtain x02|c2|z2:=Dn;obtain x22|ys|n2|d2|r2:=Do;refine At.done (a:=()) (s':={s with h:=s.h.set n (.list (ws++vs.drop k.toNat))}) (by unfold GX;rw [aN hlen]) λQ E kk=>?_;have p2:IsPart z (some k):=SJ (v:= .int k) rfl hu;have hne:ax≠bx:=λe=>hn3 (st.inj n c ax (i12 _ ho (ndd rfl)) (i12 _ ho2 (ndd rfl)) Ah (by rw [e];exact ebx));refine ZK g1 c1 d1 (Heap.IsSliceOf.new _ _ _ _) p2 hn1 ?_ g2 c2 d2 hne ?_ λh' o' q1 q2 q3 q4 q5=>?_
        ·rw [bU,<-r1.length];exact Int.toNat_le.mpr hn2
        ·rw [bU,bU,<-r1.length,<-r2.length];exact aE (dM hn4 hn5) (by decide)
        ·refine kk Y () _ (Ext.refl Y) (st'.upd (tk:=r.toks) ho (ndd rfl) Ah (λb ob hb e=>q5.extBut b ob hb e) (.inr (i12 o' q1 ⟨i03 q2 (q3.1.trans z1.1) (q3.2.trans z1.2),ys++xs.drop k.toNat,?_⟩))) trivial;obtain x11|n'|q4:=q4;refine i12 n' ?_ (r2.append (VsR.drop r1 _));rw [q4];simp;exact eE (by simp)
       | _=>exact At.fail
      | _=>exact At.fail
     ·exact aA (fZ (aA (dP (bT k))))
    | _=>exact At.fail
   | _=>exact At.fail
  | _=>exact At.fail
 | _=>exact At.fail
end
end
section
section
variable {T:Type} [DecidableEq T] (c:Enc prog w T) {j:T}
noncomputable def ID:List (V×V)->List DictEntry->List (T×Value)
 | (k,_)::es,x::xs=>match c.dec k with
  | some i=>(i,x.val)::ID es xs
  | none=> []
 | _,_=> []
theorem sG(i:T)(b:V)(es:List (V×V))(x:DictEntry)(xs:List DictEntry):ID c ((c.enc i,b)::es) (x::xs)=(i,x.val)::ID c es xs:=by
 show (match c.dec (c.enc i) with | some i=>(i,x.val)::ID c es xs | none=> [])=_;rw [c.dec_enc]
theorem pD{xs:List DictEntry}(hl:uA (c.enc j) es=true)(h:EsR w Y es xs):(ID c es xs).length=es.length:=
 sH (c:=c) (p:=λes xs=>(ID c es xs).length=es.length) rfl (λi b es x xs Z Z Z ih=>by rw [sG];exact aU (· +1) ih) hl h
theorem AE{xs:List DictEntry}(hl:uA (c.enc j) es=true)(h:EsR w Y es xs):(ID c es xs).map (λp=>c.enc p.1)=es.map (·.1):=
 sH (c:=c) (p:=λes xs=>(ID c es xs).map (λp=>c.enc p.1)=es.map (·.1)) rfl (λi b es x xs Z Z Z ih=>by rw [sG];exact aU (c.enc i:: ·) ih) hl h
theorem TL{xs:List DictEntry}(hl:uA (c.enc j) es=true)(h:EsR w Y es xs):Pairs c.knd xs (ID c es xs):=
 sH (c:=c) (p:=λes xs=>Pairs c.knd xs (ID c es xs)) .nil (λi b es x xs hk Z Z ih=>by rw [sG];exact .cons (c.to i _ _ hk).1 rfl ih) hl h
theorem uF{h:Heap}{ob:Obj}{xs:List DictEntry}(g:h.get? a=some ob)(x:ob.ExactDict)(d:ob.data= .dict xs.toArray n)(hi:uA (c.enc j) es=true)(r:EsR w Y es xs)(nd:(es.map (·.1)).Nodup):
  h.DictAt c.knd a (ID c es xs) n:=by
 refine i26 ob _ g x d (FC c hi r) (by simpa using TL c hi r) ?_;rw [<-AE c hi r] at nd;have:(ID c es xs).map (λp=>c.enc p.1)=((ID c es xs).map (·.1)).map c.enc:=by rw [aP];rfl
 rw [this] at nd;exact List.Pairwise.of_map _ (λa b h e=>h (by rw [e])) nd
end
theorem JG(h:yB es=true):uA (.int 0) es=true:=by
 unfold yB at h;unfold uA;rw [eB] at h ⊢;intro e he;have:=h e he;obtain ⟨k,v⟩:=e
 induction k <;> first | rfl | cases this
def ItR(Y:List Addr)(n:Nat)(v:Value):Prop:=∃ a,Y[n]? =some a/\v= .ref a
section
variable {s:Shared} {t:Tok}
open KBw
theorem uG{it:Addr}{i:Nat}{c:UInt8}{Q:Value->Shared->Prop}(hit:IsBytesIter s.heap it b t i)(hx:b[i]? =some c)
  (hQ:∀ h',IsBytesIter h' it b t (i+1)->Heap.SameBut it s.heap h'->Q (.int (c.toNat:Int) s.toks) {s with heap:=h',toks:=s.toks+1}):wpAny (model prog w) A (Builtin.SmallTypes.nextOf (.ref it)) Q E s:=by
 obtain x13|o|ho|hc|hd:=id hit;unfold Builtin.SmallTypes.nextOf;refine aA (wpAny_callSpecial?_slot (name:=PySem.Str.ofString "__next__") (iter_typeIs hit) slot_next
  (dQ slot_next (iter_typeIs hit) entry_next ?_ (args_next _)))
 show wpAny _ _ (field (.ref it) 0 >>=_) _ _ s;refine aA (gM ho hd (x:= .bytes b t) rfl ?_);show wpAny _ _ (if (Value.bytes b t==Value.none)=true then _ else _) _ _ s;rw [aJ (show ¬ ((Value.bytes b t==Value.none)=true) from aW)];show wpAny _ _ (field (.ref it) 1 >>=_) _ _ s;refine aA (gM ho hd (x:= .int i 0) rfl ?_);refine aA (eN (a:=b) rfl ?_);simp only [Int.toNat_natCast,hx];refine aA (wpAny_setField ho hd (cH ..) (aA (wpAny_mkInt (aG (i12 _ rfl (aG (hQ _ ?_ (Heap.SameBut.update ..))))))));exact ⟨_,cL _ ho (Obj.isFreed_of_fields (Obj.data_mapFields hd _)),(Obj.cls_mapFields ..).trans hc,by
  rw [Obj.data_mapFields hd];simp [rawInt]⟩
theorem RG{it:Addr}{i:Nat}{Q:Value->Shared->Prop}(hh:A.handled=none)(hit:IsBytesIter s.heap it b t i)(hx:b[i]? =none)
  (hE:∀ h' e,Heap.ExtBut it s.heap h'->(∃ o,h'.get? e=some o/\o.cls= .type "StopIteration")->E (.ref e) {s with heap:=h'}):wpAny (model prog w) A (Builtin.SmallTypes.nextOf (.ref it)) Q E s:=by
 obtain x13|o|ho|hc|hd:=id hit;unfold Builtin.SmallTypes.nextOf;refine aA (wpAny_callSpecial?_slot (name:=PySem.Str.ofString "__next__") (iter_typeIs hit) slot_next
  (dQ slot_next (iter_typeIs hit) entry_next ?_ (args_next _)))
 show wpAny _ _ (field (.ref it) 0 >>=_) _ _ s;refine aA (gM ho hd (x:= .bytes b t) rfl ?_);show wpAny _ _ (if (Value.bytes b t==Value.none)=true then _ else _) _ _ s;rw [aJ (show ¬ ((Value.bytes b t==Value.none)=true) from aW)];show wpAny _ _ (field (.ref it) 1 >>=_) _ _ s;refine aA (gM ho hd (x:= .int i 0) rfl ?_);refine aA (eN (a:=b) rfl ?_);simp only [Int.toNat_natCast,hx];refine aA (wpAny_rule (aA (wpAny_setField ho hd (cE _) ?_)));show wpAny _ _ (newExc (.type "StopIteration") [] >>=_) _ _ _;refine aA ?_;unfold newExc newTuple;refine aA (fZ ?_ (by size_fits));refine aA (m:=firstArgMember _ _) (eN (a:=Value.none) (by first | rfl | (simp only [firstArgMember];rfl)) ?_);refine fZ ?_ (by size_fits);unfold raiseNew;dsimp only;refine aA (wpAny_handled ?_);first | rw [show A.in1.handled=none from hh] | rw [hh]
 refine aA (aG (wpAny_throw ?_));exact hE _ _ (((Heap.SameBut.update ..).extBut.push _).push _) (i12 _ (bC _ rfl) rfl)
end
open KBw in
theorem FL(hh:A.handled=none)(it:Addr)(b:Array UInt8)(t:Tok):
  Draws prog w A it [it] b.size (λi v=>∃ c u,b[i]? =some c/\v= .int (c.toNat:Int) u) (λi h=>IsBytesIter h it b t i) where
 live:=λZ Z st=>by obtain x12|o|ho|u_:=st;exact ⟨o,ho⟩
 frame:=λZ Z Z st hk=>by obtain x12|o|ho|r:=st;exact i12 o (hk it (.head _) o ho) r
 item:=λi s Q E hi st hQ=>by
  refine uG st (c:=b[i]) (by simp [hi]) λh' hit' hs'=>?_;exact hQ _ h' (s.toks+1) (i22 _ _ (by simp [hi]) rfl) hit' hs'
 done:=λs Q E st hE=>RG hh st (by simp) hE
section
variable {U:Lev} {Y0:List Addr}
theorem At.new{β:Type}{R:List Addr->Nat->β->Prop}{t:Sem β}{s:S}{r:Shared}(st:StL U Y s r)(o:O)(ob:Obj)(b:β)(tk:Tok)(hf:ob.isFreed=false)(hr:OR U.G.w (Y++ [r.heap.objs.size]) o ob)(hR:R (Y++ [r.heap.objs.size]) s.h.length b)
  (h:∀ (Q:β->Shared->Prop) (E:Value->Shared->Prop),Q b {r with heap:=r.heap.push ob,toks:=tk}->wpAny (model U.prog U.G.w) U.A t Q E r) (hl:∀ b sc ce,o≠O.lam b sc ce:=by exact nl rfl):At U Y s r R (FX o) t:=
 At.done (a:=s.h.length) (s':={s with h:=s.h++ [o]}) rfl λQ E k=>h Q E (k _ _ _ (Ext.one _ _) (st.alloc (tk:=tk) (λb o e=>aM _ e) Heap.fresh_none (bC _ hf) hr (aV st.big) hl) hR)
theorem HC{s:S}{r:Shared}(st:StL U Y s r):ItR (Y++ [r.heap.objs.size]) s.h.length (.ref r.heap.objs.size):=i12 _ (by rw [<-st.len];simp) rfl
theorem pE{b:Addr}(e:Y[n]? =some a):(Y++ [b])[n]? =some a:=(Ext.one Y b).get e
theorem HK{e:Addr}{vs:Array Value}{Q:Value->Shared->Prop}{r:Shared}(he:r.heap.get? e=some {cls:= .type "enumerate",dict:=none,data:= .fields vs,slots:=#[]})(h:Q (.ref e) r):wpAny (model U.prog U.G.w) A (pyIter (.ref e)) Q E r:=by
 have hT:r.TypeIs (.ref e) "enumerate":=i12 _ he rfl;refine wpAny_pyIter_slot hT PySem.F.slot_enumerate_iter (dQ PySem.F.slot_enumerate_iter hT PySem.F.entry_enumerate_iter ?_ (PySem.F.args_enumerate_iter_1 _));show wpAny _ _ (ret (.ref e)) _ _ r;exact aG (i12 _ rfl ⟨"enumerate",_,hT,PySem.F.slot_enumerate_next.lookup,h⟩)
theorem qU{a:V}{x:Value}(ha:VR Y0 a x):Sim U Y0 ItR (oE a) (pyIter x):=by
 refine Sim.of_at λY s r ex st=>?_;have ha:=ha.mono ex
 induction a with
 | ref n=>
  obtain x12|ax|Ah|rfl:=ha;refine At.geto λo ho=>?_
  induction o with
  | list vs=>
   obtain x13|Aj|g1|Dq|Dr:=st.at ho (ndd rfl) Ah;obtain x02|c1|z1:=Dq;obtain x22|xs|n1|d1|r1:=Dr;exact At.new st _ {cls:= .type "list_iterator",data:= .fields #[.ref ax,.int 0 0]} _ r.toks rfl ⟨rfl,ax,pE Ah,rfl⟩ (HC st) λQ E k=>wpAny_pyIter_list (i13 Aj g1 c1 ⟨n1,d1⟩) k
  | tup vs=>
   obtain x13|Aj|g1|c1|Dp:=st.at ho (ndd rfl) Ah;obtain x22|xs|n1|d1|r1:=Dp;exact At.new st _ {cls:= .type "tuple_iterator",data:= .fields #[.ref ax,.int 0 0]} _ r.toks rfl ⟨rfl,ax,pE Ah,rfl⟩ (HC st) λQ E k=>wpAny_pyIter_tuple (i13 Aj g1 c1 ⟨n1,d1⟩) k
  | dict es ep=>
   refine At.need λhn=>?_;obtain x14|Aj|g1|x1|Do|nd:=st.at ho (ndd rfl) Ah;obtain x12|xs|d1|r1:=Do;have hn:=JG hn;have DA:=uF (encI U.prog U.G.w) (j:=0) g1 x1 d1 hn r1 nd;refine At.new st _ {cls:= .type "dict_keyiterator",data:= .fields #[.ref ax,.int 0 0,.int (ID (encI U.prog U.G.w) es xs).length 0,.int ep 0]} _ r.toks rfl ⟨rfl,ax,pE Ah,?_⟩ (HC st) λQ E k=>wpAny_pyIter_dict (st.ne_mods Ah) DA k;rw [pD (encI U.prog U.G.w) (j:=0) hn r1];rfl
  | rng x b c=>
   refine At.need λhn=>?_;obtain x12|Aj|g1|Dn:=st.at ho (ndd rfl) Ah;obtain x31|t|u|v|rfl:=Dn;exact At.new st _ {cls:= .type "range_iterator",dict:=none,data:= .fields #[rawInt _,rawInt (Builtin.Range.rangeSize _ _ _),rawInt _],slots:=#[]} _ r.toks rfl rfl (HC st) λQ E k=>wpAny_pyIter_range g1 hn k
  | itE _ _ _=>
   obtain x12|Aj|g1|Dy:=st.at ho (ndd rfl) Ah;obtain x33|ai|y|own|e1|o1|rfl:=Dy;exact At.done (a:=n) (s':=s) rfl λQ E k=>HK g1 (k Y _ r (Ext.refl _) st (i12 ax Ah rfl))
  | _=>exact At.fail
 | str x=>
  obtain x11|t|rfl:=ha;cases hx:x.cps.all (· < 128) with
  | true=>exact At.new st _ {cls:= .type "str_ascii_iterator",data:= .fields #[.str x t,.int 0 0]} _ r.toks rfl (i12 t (by unfold strIterType;rw [hx];rfl) rfl) (HC st) λQ E k=>wpAny_pyIter_ascii hx k
  | false=>exact At.new st _ {cls:= .type "str_iterator",data:= .fields #[.str x t,.int 0 0]} _ r.toks rfl (i12 t (by unfold strIterType;rw [hx];rfl) rfl) (HC st) λQ E k=>wpAny_pyIter_wide hx k
 | _=>exact At.fail
theorem At.stepIt{t:Sem (Option Value)}{s:S}{r:Shared}{it:Nat}{oi o':O}{v:Option V}(st:StL U Y s r)(ho:s.h[it]? =some oi)(hd:oi≠ .dead)(ea:Y[it]? =some a)
  (h1:∀ u,v=some u->∀ (Q:Option Value->Shared->Prop) (E:Value->Shared->Prop),(∀ y h' tk,(∃ ob,h'.get? a=some ob/\OR U.G.w Y o' ob)->Heap.ExtBut a r.heap h'->VR Y u y->Q (some y) {r with heap:=h',toks:=tk})->wpAny (model U.prog U.G.w) U.A t Q E r)
  (h2:v=none->∀ (Q:Option Value->Shared->Prop) (E:Value->Shared->Prop),(∀ h',Heap.ExtBut a r.heap h'->Q none {r with heap:=h'})->wpAny (model U.prog U.G.w) U.A t Q E r) (hl:∀ b sc ce,o'≠ .lam b sc ce:=by exact nl rfl):At U Y s r OptR (tE it o' v) t:=by
 have hlen:=(aQ.mp ho).1
 induction v with
 | some u=>
  refine At.done (a:=some u) (s':={s with h:=s.h.set it o'}) (by show (GX it o' >>=λZ=>Pure.pure (some u)) s=_;rw [nA (s₁:={s with h:=s.h.set it o'}) (a:=()) (by unfold GX;rw [aN hlen])];rfl) λQ E k=>h1 u rfl Q E λy h' tk hob hs hy=>?_;exact k Y _ _ (Ext.refl _) (st.upd (tk:=tk) ho hd ea (λb ob hb e=>hs b ob hb e) (.inr hob) hl) hy
 | none=>
  refine At.done (a:=none) (s':={s with h:=s.h.set it .dead}) (by show (GX it .dead >>=λZ=>Pure.pure none) s=_;rw [nA (s₁:={s with h:=s.h.set it .dead}) (a:=()) (by unfold GX;rw [aN hlen])];rfl) λQ E k=>h2 rfl Q E λh' hs=>?_;exact k Y _ _ (Ext.refl _) (st.upd (tk:=r.toks) ho hd ea (λb ob hb e=>hs b ob hb e) (.inl rfl)) trivial
theorem uU(hh:U.A.handled=none){it:Nat}(ea:Y0[it]? =some a):Sim U Y0 OptR (EF it) (pyNext (.ref a)):=by
 refine Sim.of_at λY s r ex st=>?_;have ea:=ex.get ea;refine At.geto λo ho=>?_
 induction o with
 | itL l i=>
  refine At.geto λo2 ho2=>?_
  induction o2 with
  | list vs=>
   obtain x13|ob|g|c|Dx:=st.at ho (ndd rfl) ea;obtain x12|la|el|d:=Dx;obtain x13|Aj|g1|Dv|Dw:=st.at ho2 (ndd rfl) el;obtain x02|c1|z1:=Dv;obtain x22|xs|n1|d1|r1:=Dw;refine At.stepIt st ho (ndd rfl) ea (λu hu Q E k=>?_) λhu Q E k=>?_
   ·obtain x12|y|hy|hr:=r1.get hu;refine wpAny_pyNext_list_item (i13 ob g c d) (i13 Aj g1 c1 ⟨n1,d1⟩) (by simpa using hy) λh' hi hs=>k y h' r.toks ?_ hs.extBut hr;obtain x13|ob'|g'|c'|d':=hi;exact i12 ob' g' ⟨c',la,el,d'⟩
   ·refine wpAny_pyNext_list_end hh (i13 ob g c d) (i13 Aj g1 c1 ⟨n1,d1⟩) ?_ λh' hs=>k h' hs;have:=dN.mp hu;rw [r1.length] at this;simpa using this
  | _=>exact At.fail
 | itT l i=>
  refine At.geto λo2 ho2=>?_
  induction o2 with
  | tup vs=>
   obtain x13|ob|g|c|Du:=st.at ho (ndd rfl) ea;obtain x12|la|el|d:=Du;obtain x13|Aj|g1|c1|Dt:=st.at ho2 (ndd rfl) el;obtain x22|xs|n1|d1|r1:=Dt;refine At.stepIt st ho (ndd rfl) ea (λu hu Q E k=>?_) λhu Q E k=>?_
   ·obtain x12|y|hy|hr:=r1.get hu;refine wpAny_pyNext_tuple_item (i13 ob g c d) (i13 Aj g1 c1 ⟨n1,d1⟩) (by simpa using hy) λh' hi hs=>k y h' r.toks ?_ hs.extBut hr;obtain x13|ob'|g'|c'|d':=hi;exact i12 ob' g' ⟨c',la,el,d'⟩
   ·refine wpAny_pyNext_tuple_end hh (i13 ob g c d) (i13 Aj g1 c1 ⟨n1,d1⟩) ?_ λh' hs=>k h' hs;have:=dN.mp hu;rw [r1.length] at this;simpa using this
  | _=>exact At.fail
 | itD l i len ep=>
  refine At.geto λo2 ho2=>?_
  induction o2 with
  | dict es n=>
   refine At.need λhn=>?_;rw [bY] at hn;obtain x02|h1|h2:=hn;obtain x02|rfl|rfl:=aX h1;obtain x13|ob|g|c|Ds:=st.at ho (ndd rfl) ea;obtain x12|la|el|d:=Ds;obtain x14|Aj|g1|x1|Dr|nd:=st.at ho2 (ndd rfl) el;obtain x12|xs|d1|r1:=Dr;have h2:=JG h2;have DA:=uF (encI U.prog U.G.w) (j:=0) g1 x1 d1 h2 r1 nd;have kl:=pD (encI U.prog U.G.w) (j:=0) h2 r1;have KI:r.heap.IsKeyIter a la i (ID (encI U.prog U.G.w) es xs).length n:=⟨ob,g,c,by rw [kl];exact d⟩;have kk:=AE (encI U.prog U.G.w) (j:=0) h2 r1;have rZ:(ID (encI U.prog U.G.w) es xs)[i]?.map (λp=>V.int p.1)=es[i]?.map (·.1):=by
    show (ID (encI U.prog U.G.w) es xs)[i]?.map (λp=>(encI U.prog U.G.w).enc p.1)=_;rw [<-bS,<-bS,kk]
   refine At.stepIt st ho (ndd rfl) ea (λu hu Q E k=>?_) λhu Q E k=>?_
   ·rw [<-rZ] at hu;obtain x12|Dq|hj|rfl:=bH.mp hu;obtain ⟨j,y⟩:=Dq;refine wpAny_pyNext_dict_item KI DA hj λkey h' Ae hi hs=>k key h' r.toks ?_ hs.extBut (Value.isInt_shape Ae);obtain x13|ob'|g'|c'|d':=hi;rw [kl] at d';exact i12 ob' g' ⟨c',la,el,d'⟩
   ·rw [<-rZ] at hu;exact wpAny_pyNext_dict_end hh KI DA (by simpa using hu) λh' hs=>k h' hs
  | _=>exact At.fail
 | itR x left step=>
  obtain x12|ob|g|rfl:=st.at ho (ndd rfl) ea;refine At.stepIt st ho (ndd rfl) ea (λu hu Q E k=>?_) λhu Q E k=>?_
  ·split at hu
   ·rename_i hl;cases hu;exact wpAny_pyNext_range_item g hl λh' hi hs=>k _ h' _ (i12 _ hi rfl) hs.extBut ⟨_,rfl⟩
   ·cases hu
  ·split at hu
   ·cases hu
   ·rename_i hl;exact wpAny_pyNext_range_end hh g (dG.mp hl) λh' hs=>k h' hs
 | itS x i=>
  obtain x12|ob|g|Dp:=st.at ho (ndd rfl) ea;obtain x12|t|c|d:=Dp;cases hx:x.cps.all (· < 128) with
  | true=>
   have ht:strIterType x="str_ascii_iterator":=by unfold strIterType;rw [hx];rfl
   rw [ht] at c;refine At.stepIt st ho (ndd rfl) ea (λu hu Q E k=>?_) λhu Q E k=>?_
   ·obtain x12|cc|hc|rfl:=bH.mp hu;refine wpAny_pyNext_ascii_item (i13 ob g c d) hc λh' hi hs=>k _ h' _ ?_ hs.extBut ⟨_,rfl⟩;obtain x13|ob'|g'|c'|d':=hi;exact i12 ob' g' ⟨t,by rw [ht];exact c',d'⟩
   ·exact wpAny_pyNext_ascii_end hh (i13 ob g c d) (by simpa using hu) λh' hs=>k h' hs
  | false=>
   have ht:strIterType x="str_iterator":=by unfold strIterType;rw [hx];rfl
   rw [ht] at c;refine At.stepIt st ho (ndd rfl) ea (λu hu Q E k=>?_) λhu Q E k=>?_
   ·obtain x12|cc|hc|rfl:=bH.mp hu;refine wpAny_pyNext_wide_item (i13 ob g c d) hc λh' hi hs=>k _ h' _ ?_ hs.extBut ⟨_,rfl⟩;obtain x13|ob'|g'|c'|d':=hi;exact i12 ob' g' ⟨t,by rw [ht];exact c',d'⟩
   ·exact wpAny_pyNext_wide_end hh (i13 ob g c d) (by simpa using hu) λh' hs=>k h' hs
 | itE n i w=>induction w with
  | some w=>exact At.fail
  | none=>
   refine At.geto λo2 ho2=>?_
   induction o2 with
   | itB b j=>
    refine At.need λhn=>?_;obtain x03|rfl|hib|hne:=aX hn;obtain x12|ob|g|Do:=st.at ho (ndd rfl) ea;obtain x33|ai|y|own|e1|o1|rfl:=Do;obtain x13|Bm|g2|c2|Dn:=st.at ho2 (ndd rfl) e1;obtain x11|t2|dd2:=Dn;have hown:own= .none:=o1;subst hown;have hea:a≠ai:=λz=>hne (st.inj n it a (i12 _ ho2 (ndd rfl)) (i12 _ ho (ndd rfl)) (z▸e1) ea);have D:=FL (prog:=U.prog) (w:=U.G.w) (A:=U.A.in1) hh ai b t2;cases hc:b[i]? with
    | some c=>
     have hlt:i < b.size:=(fA.mp hc).1;refine At.done (a:=some (.ref s.h.length)) (s':={s with h:=(s.h.set n (.itB b (i+1))).set it (.itE n (i+1) (some s.h.length))++ [.tup [.int i,.int (c.toNat:Int)]]}) rfl λQ E k=>?_;refine wpAny_pyNext_enum_itemD D g (i13 Bm g2 c2 dd2) hlt hea (by simpa using hea) λx h' tk hP ho' hs' hT Af hk=>?_;obtain x22|c'|u|hc'|rfl:=hP;rw [hc] at hc';cases hc';obtain x13|ob3|g3|c3|dd3:=hs';have hin:(Y++ [r.heap.objs.size])[s.h.length]? =some r.heap.objs.size:=by rw [<-st.len];simp
     refine k (Y++ [r.heap.objs.size]) _ _ (Ext.one _ _) (st.upd2 (tk:=tk+1) ho2 (ndd rfl) e1 ho (ndd rfl) ea hne (λb' ob' h1 h2 e=>hk b' ob' h2 h1 e) (i12 ob3 g3 ⟨c3,t2,dd3⟩) (i12 _ ho' ⟨ai,_,_,pE e1,i12 _ hin rfl,rfl⟩) Heap.fresh_none hT ⟨rfl,[.int i tk,.int (c.toNat:Int) u],0,rfl,⟨_,rfl⟩,⟨_,rfl⟩,trivial⟩ (aV st.big) rfl (nl rfl) (nl rfl) (nl rfl)) (i12 _ hin rfl)
    | none=>
     have hge:i=b.size:=eV hib (Array.getElem?_eq_none_iff.mp hc);subst hge;have hlen:=(aQ.mp ho2).1;refine At.done (a:=none) (s':={s with h:=s.h.set n .dead}) (by show (GX n .dead >>=λZ=>Pure.pure none) s=_;rw [nA (s₁:={s with h:=s.h.set n .dead}) (a:=()) (by unfold GX;rw [aN hlen])];rfl) λQ E k=>?_;refine wpAny_pyNext_enum_endD D g (i13 Bm g2 c2 dd2) λh' hs=>?_;exact k Y _ _ (Ext.refl _) (st.upd (tk:=r.toks) ho2 (ndd rfl) e1 (λb ob hb e=>hs b ob hb e) (.inl rfl)) trivial
   | _=>exact At.fail
 | _=>exact At.fail
end
end
section
open PyProof.Rows.LSm
theorem BD{f:V->Option α}{g:α->V}(k:∀ v a,f v=some a->v=g a):∀ {vs:List V} {l:List α},qK f vs=some l->vs=l.map g:=by
 intro vs
 induction vs with
 | nil=>intro _ h;cases h;rfl
 | cons v vs ih=>
  intro l h;obtain x12|a|h1|h2:=bX.mp h;obtain x12|l'|h'|rfl:=bH.mp h2;rw [k v a h1,ih h'];rfl
theorem qG{l:List Int}(h:NE vs=some l)(hr:VsR Y vs xs):IntsAre xs l:=by
 rw [BD (g:=V.int) (λv a h=>by induction v <;> first | exact nos h | (cases h;rfl)) h] at hr;clear h
 induction l generalizing xs with
 | nil=>induction xs using lCq with
  | nil=>exact .nil
  | cons _ _=>exact hr.elim
 | cons i l ih=>induction xs using lCq with
  | nil=>exact hr.elim
  | cons x xs=>
   obtain x02|hv|hr:=hr;obtain x11|t|rfl:=hv;exact .cons _ t (ih hr)
theorem RI{l:List Str}(h:WH vs=some l)(hr:VsR Y vs xs):StrsAre xs l:=by
 rw [BD (g:=V.str) (λv a h=>by induction v <;> first | exact nos h | (cases h;rfl)) h] at hr;clear h
 induction l generalizing xs with
 | nil=>induction xs using lCq with
  | nil=>exact .nil
  | cons _ _=>exact hr.elim
 | cons i l ih=>induction xs using lCq with
  | nil=>exact hr.elim
  | cons x xs=>
   obtain x02|hv|hr:=hr;obtain x11|t|rfl:=hv;exact .cons _ t (ih hr)
theorem yL{l:List Bool}(h:rJ vs=some l)(hr:VsR Y vs xs):BoolsAre xs l:=by
 rw [BD (g:=V.bool) (λv a h=>by induction v <;> first | exact nos h | (cases h;rfl)) h] at hr;clear h
 induction l generalizing xs with
 | nil=>induction xs using lCq with
  | nil=>exact .nil
  | cons _ _=>exact hr.elim
 | cons i l ih=>induction xs using lCq with
  | nil=>exact hr.elim
  | cons x xs=>
   obtain x02|hv|hr:=hr;cases hv;exact .cons _ (ih hr)
theorem BM:∀ l:List (Str×Tok),VsR Y ((l.map (·.1)).map V.str) (strValues l):=by
 intro l
 induction l with
 | nil=>exact trivial
 | cons p r ih=>exact ⟨⟨p.2,rfl⟩,ih⟩
section
variable {G:Ground} {C:Addr} {kp:Kept} {s:S} {r:Shared}
theorem St.lst(x:St G C kp Y s r)(h:s.h[n]? =some (.list vs))(ea:Y[n]? =some a):∃ xs k,r.heap.get? a=some {cls:= .type "list",data:= .seq (List.toArray xs) k}/\VsR Y vs xs:=by
 obtain x13|Dp|g|Dq|Dr:=x.at h (ndd rfl) ea;obtain ⟨c,d,dt,sl⟩:=Dp;obtain x03|c1|z1|z2:=Dq;obtain x22|xs|n1|d1|r1:=Dr;dsimp only at c1 z1 z2 d1;subst c1 z1 z2 d1;exact i22 xs n1 g r1
end
section
variable {U:Lev} {Y0:List Addr} {s:S} {r:Shared}
theorem At.listAt{β:Type}{R:List Addr->α->β->Prop}{x:Value}{f:List V->M α}{t:Sem β}(st:StL U Y s r)(hv:VR Y v x)
  (h:∀ n vs a xs k,v= .ref n->s.h[n]? =some (.list vs)->x= .ref a->Y[n]? =some a->r.heap.get? a=some {cls:= .type "list",data:= .seq (List.toArray xs) k}->VsR Y vs xs->At U Y s r R (f vs) t):At U Y s r R (IX v >>=f) t:=by
 induction v with
 | ref n=>
  obtain x12|a|ea|rfl:=hv;have e:(IX (.ref n) >>=f)=(CX n >>=λo=>(match o with | .list vs=>Pure.pure vs | _=>EX) >>=f):=by
   funext s;show M.bind (M.bind _ _) _ s=M.bind _ _ s;unfold M.bind;cases hg:CX n s with
   | none=>rfl
   | some p=>obtain ⟨_ | _,_⟩:=p <;> rfl
  rw [e];refine At.geto λo ho=>?_
  induction o with
  | list vs=>
   obtain x22|xs|k|g|r1:=st.lst ho ea;exact h n vs a xs k rfl ho rfl ea g r1
  | _=>exact At.no rfl
 | _=>exact At.no rfl
theorem GC{h:Heap}(g:h.get? a=some {cls:= .type "list",data:= .seq (List.toArray xs) k}):h.IsList a xs.toArray:=i13 _ g rfl ⟨k,rfl⟩
theorem At.listSet{β:Type}{R:List Addr->V->β->Prop}{t:Sem β}{vs':List V}(st:StL U Y s r)(ho:s.h[n]? =some (.list vs))(ea:Y[n]? =some a)
  (h:∀ (Q:β->Shared->Prop) (E:Value->Shared->Prop),(∀ b h' tk xs' k',h'.get? a=some {cls:= .type "list",data:= .seq (List.toArray xs') k'}->VsR Y vs' xs'->Heap.ExtBut a r.heap h'->R Y v b->Q b {r with heap:=h',toks:=tk})->wpAny (model U.prog U.G.w) U.A t Q E r):
  At U Y s r R (GX n (.list vs') >>=λZ=>Pure.pure v) t:=by
 have hlen:=(aQ.mp ho).1;refine At.done (a:=v) (s':={s with h:=s.h.set n (.list vs')}) (by rw [nA (s₁:={s with h:=s.h.set n (.list vs')}) (a:=()) (by unfold GX;rw [aN hlen])];rfl) λQ E k=>h Q E λb h' tk xs' k' g hr hs hb=>?_;exact k Y _ _ (Ext.refl _) (st.upd (tk:=tk) ho (ndd rfl) ea (λb ob hb e=>hs b ob hb e) (.inr (i12 _ g ⟨i03 rfl rfl rfl,xs',k',rfl,hr⟩))) hb
theorem At.keepsT{β:Type}{R:List Addr->V->β->Prop}{t:Sem β}(st:StL U Y s r)
  (h:∀ (Q:β->Shared->Prop) (E:Value->Shared->Prop),(∀ b h' tk,(∀ b o,r.heap.get? b=some o->h'.get? b=some o)->R Y v b->Q b {r with heap:=h',toks:=tk})->wpAny (model U.prog U.G.w) U.A t Q E r):At U Y s r R (Pure.pure v) t:=
 At.done rfl λQ E k=>h Q E λb h' tk hk hb=>k Y _ _ (Ext.refl _) (st.keeps (tk:=tk) (d:=r.drawn) hk) hb
theorem tX{a:V}{x:Value}(ha:VR Y0 a x):Sim U Y0 VR (lenM a >>=λi=>Pure.pure (.int i)) (call (.builtin "len") [x]):=by
 refine Sim.of_at λY s r ex st=>?_;have ha:=ha.mono ex;have big:∀ {n:Nat},n<=100000->(n:Int) < 2 ^ 63:=sq
 induction a with
 | str y=>
  obtain x11|t|rfl:=ha;show At U Y s r VR ((BX _ >>=λZ=>Pure.pure (y.length:Int)) >>=_) _;by_cases hn:y.length<=100000
  ·rw [aF hn];exact At.pure (a:=V.int y.length) st λQ E k=>PyProof.Rows.len_str (Int.not_le.mpr (big hn)) (k _ _ ⟨_,rfl⟩)
  ·rw [bE hn];exact At.no rfl
 | bytes y=>
  obtain x11|t|rfl:=ha;show At U Y s r VR ((BX _ >>=λZ=>Pure.pure (y.size:Int)) >>=_) _;by_cases hn:y.size<=100000
  ·rw [aF hn];exact At.pure (a:=V.int y.size) st λQ E k=>len_bytes (aE hn (by decide)) (k _ _ ⟨_,rfl⟩)
  ·rw [bE hn];exact At.no rfl
 | ref n=>
  obtain x12|ax|Ah|rfl:=ha;have e:(lenM (.ref n) >>=λi=>Pure.pure (V.int i))=(CX n >>=λo=>(match o with | .list vs=>(BX (decide (vs.length<=100000)) >>=λZ=>Pure.pure (vs.length:Int)) | _=>EX) >>=λi=>Pure.pure (V.int i)):=by
   funext s;show M.bind (M.bind _ _) _ s=M.bind _ _ s;unfold M.bind;cases hg:CX n s with
   | none=>rfl
   | some p=>obtain ⟨_ | _,_⟩:=p <;> rfl
  rw [e];refine At.geto λo ho=>?_
  induction o with
  | list vs=>
   obtain x22|xs|k|g|r1:=st.lst ho Ah;by_cases hn:vs.length<=100000
   ·show At U Y s r VR ((BX (decide (vs.length<=100000)) >>=λZ=>Pure.pure (vs.length:Int)) >>=_) _;rw [aF hn];refine At.pure (a:=V.int vs.length) st λQ E kk=>call_len_list (GC g) (by rw [bU,<-r1.length];exact big hn) (kk _ _ ?_);rw [bU,<-r1.length];exact ⟨_,rfl⟩
   ·show At U Y s r VR ((BX (decide (vs.length<=100000)) >>=λZ=>Pure.pure (vs.length:Int)) >>=_) _;rw [bE hn];exact At.no rfl
  | _=>exact At.no rfl
 | _=>exact At.no rfl
theorem yX(hh:U.A.handled=none){a:V}{x:Value}(ha:VR Y0 a x):Sim U Y0 VR (IX a >>=λvs=>DX (NE vs) >>=λl=>Pure.pure (.int l.sum)) (call (.builtin "sum") [x]):=by
 refine Sim.of_at λY s r ex st=>At.listAt st (ha.mono ex) λn vs ax xs k e1 h1 e2 Ah g r1=>?_;subst e2;refine At.opt λl hl=>At.keepsT st λQ E kk=>?_;have hi:=qG hl r1;obtain x11|ys|hx:=hi.allInts.items;have hn:numsOf xs.toArray.toList=l:=by rw [show xs.toArray.toList=xs from rfl,hi.numsOf]
 have hl':=GC g;rw [hx] at hl' hn;rw [nums_intItems] at hn;refine sum_intListG hh hl' λh' tk t' hk=>kk _ h' tk hk ?_;rw [preSum_eq,eE (by simp),hn];exact ⟨_,rfl⟩
theorem VW(hh:U.A.handled=none){a:V}{x:Value}(ha:VR Y0 a x):Sim U Y0 VR (IX a >>=λvs=>DX (rJ vs) >>=λl=>Pure.pure (.bool (l.all λb=>b))) (call (.builtin "all") [x]):=by
 refine Sim.of_at λY s r ex st=>At.listAt st (ha.mono ex) λn vs ax xs k e1 h1 e2 Ah g r1=>?_;subst e2;refine At.opt λbs hl=>At.keepsT st λQ E kk=>?_;have hb:=yL hl r1;have hl:=GC g;have hlt:ax < r.heap.objs.size:=cP g;refine call_all_walk (wpAny_pyIter_list hl ?_);refine ⟨r.heap.objs.size,[r.heap.objs.size,ax],[r.heap.objs.size],xs.toArray.size,_,_,λi=>(bs[i]?).getD true,rfl,Walks.list (A:=U.A.in1) hh _ ax (bG hlt) xs.toArray,
  ⟨i13 _ (bC _ rfl) rfl rfl,hl.push _⟩,λi v s' Q' E' hP hQ=>?_,λh' tk hk=>?_⟩
 ·obtain x12|b|e|rfl:=hb.get i v (by simpa using hP);simp only [e,Option.getD_some] at hQ;exact wpAny_truthy_bool hQ
 ·have e:((List.range xs.toArray.size).all λi=>(bs[i]?).getD true)=bs.all id:=by
   rw [bU,hb.length];exact range_all bs
  rw [e];exact kk _ h' tk (kept_iter hk) rfl
theorem uX(hh:U.A.handled=none){x y:Int}{u v:Value}(hu:VR Y0 (.int x) u)(hv:VR Y0 (.int y) v):Sim U Y0 VR (Pure.pure (.int (max x y))) (call (.builtin "max") [u,v]):=by
 refine Sim.of_at λY s r ex st=>At.keepsT st λQ E kk=>?_;obtain x11|t|rfl:=hu;obtain x11|w|rfl:=hv;refine max_two_ints hh λh' tk hk=>kk _ h' tk hk ?_;by_cases c:y > x
 ·rw [aN c,eO (eS c)];exact ⟨_,rfl⟩
 ·rw [aJ c,Int.max_eq_left (dG.mp c)];exact ⟨_,rfl⟩
theorem NM{a v:Value}{u:V}(ha:VR Y0 (.ref n) a)(hu:VR Y0 u v):Sim U Y0 VR (lB "list.append" [.ref n,u]) (call (.builtin "list.append") [a,v]):=by
 refine Sim.of_at λY s r ex st=>?_;obtain x12|ax|Ah|rfl:=ha.mono ex;have hu:=hu.mono ex;show At U Y s r VR (CX n >>=λo=>_) _;refine At.geto λo ho=>?_
 induction o with
 | list vs=>
  refine At.need λhn=>?_;have hn:=aX hn;obtain x22|xs|k|g|r1:=st.lst ho Ah;refine At.listSet (vs':=vs++ [u]) st ho Ah λQ E kk=>append_at g (λh' hs hg=>kk _ h' r.toks (xs++ [v]) (k+1) (by simpa using hg) (r1.append ⟨hu,trivial⟩) hs.extBut rfl) ?_;rw [bU,<-r1.length];exact aE (cC hn) FA
 | _=>exact At.fail
theorem KS{a v z:Value}{u:V}(ha:VR Y0 (.ref n) a)(hz:VR Y0 (.int 0) z)(hu:VR Y0 u v):Sim U Y0 VR (lB "list.insert" [.ref n,.int 0,u]) (call (.builtin "list.insert") [a,z,v]):=by
 refine Sim.of_at λY s r ex st=>?_;obtain x12|ax|Ah|rfl:=ha.mono ex;obtain x11|tz|rfl:=hz;have hu:=hu.mono ex;show At U Y s r VR (CX n >>=λo=>_) _;refine At.geto λo ho=>?_
 induction o with
 | list vs=>
  refine At.need λhn=>?_;have hn:=aX hn;obtain x22|xs|k|g|r1:=st.lst ho Ah;refine At.listSet (vs':=u::vs) st ho Ah λQ E kk=>?_;refine call_meets PySem.F.slot_list_insert (i12 _ g rfl) PySem.F.entry_list_insert (PySem.F.args_list_insert_3 _ _ _) (PySem.AutoSeq1.list_insert_list_int_val_1 ax _ k 0 tz v (by decide) (by rw [bU,<-r1.length];exact aE (cC hn) FA)) ⟨g,?_⟩;refine kk _ _ r.toks (v::xs) (k+1) ((PySem.IsL.update g _).trans ?_) ⟨hu,r1⟩ (Heap.SameBut.update ..).extBut rfl;simp
 | _=>exact At.fail
theorem vX{a z:Value}(ha:VR Y0 (.ref n) a)(hz:VR Y0 (.int 0) z):Sim U Y0 VR (lB "list.pop" [.ref n,.int 0]) (call (.builtin "list.pop") [a,z]):=by
 refine Sim.of_at λY s r ex st=>?_;obtain x12|ax|Ah|rfl:=ha.mono ex;obtain x11|tz|rfl:=hz;show At U Y s r VR (CX n >>=λo=>_) _;refine At.geto λo ho=>?_
 induction o with
 | list us=>induction us using lCq with
  | nil=>exact At.fail
  | cons v vs=>
   refine At.need λhn=>?_;have hn:=aX hn;obtain x22|xs|k|g|r1:=st.lst ho Ah
   induction xs using lCq with
   | nil=>exact r1.elim
   | cons x xs=>
    obtain x02|rx|r1:=r1;refine At.listSet (vs':=vs) st ho Ah λQ E kk=>?_;have Af:xs.length<=100000:=by rw [<-r1.length];exact hn
    refine call_meets PySem.F.slot_list_pop (i12 _ g rfl) PySem.F.entry_list_pop (PySem.F.args_list_pop_2 _ _) (PySem.MeetsSeq.list_pop_at ax _ k 0 tz 0 x (by decide) ?_ (rfl) ?_) ⟨g,?_⟩
    ·unfold seqIndex?;simp
    ·exact aE (bP Af) (by decide+kernel)
    ·refine kk _ _ r.toks xs (k+1) ((PySem.IsL.update g _).trans ?_) r1 (Heap.SameBut.update ..).extBut rx;simp [Array.eraseIdxIfInBounds]
 | _=>exact At.fail
theorem oX{a y:Value}{b:V}(ha:VR Y0 (.ref n) a)(hb:VR Y0 b y):Sim U Y0 VR (lB "dict.get" [.ref n,b]) (call (.builtin "dict.get") [a,y]):=by
 refine Sim.of_at λY s r ex st=>?_;obtain x12|ax|Ah|rfl:=ha.mono ex;have hb:=hb.mono ex;show At U Y s r VR (CX n >>=λo=>_) _;refine At.geto λo ho=>?_
 induction o with
 | dict es ep=>
  refine At.need λhn=>?_;rw [bY] at hn;refine At.dict hn.1 λT Z c k hk=>At.pure st λQ E kk=>?_;subst hk;obtain x14|Aj|g1|x1|Do|nd:=st.at ho (ndd rfl) Ah;obtain x12|xs|d1|r1:=Do;have hf:=wF c hn.2 r1 k;refine call_meetsIn PySem.F.slot_dict_get (i12 Aj g1 x1.1) PySem.F.entry_dict_get (PySem.F.args_dict_get_2 _ _) (meets_dict_get c.knd ax (c.val Y k y hb) (st.ne_mods Ah)) (i12 (λk=>findBy c.knd.is xs.toArray k) (i35 Aj xs.toArray _ g1 x1 d1 (FC c hn.2 r1) λZ=>rfl) ?_);refine kk _ _ ?_;dsimp only;cases h1:IA (c.enc k) es <;> cases h2:findBy c.knd.is xs.toArray k <;> rw [h1,h2] at hf
  ·exact (rfl:Value.none=Value.none)
  ·exact hf.elim
  ·exact hf.elim
  ·exact hf
 | _=>exact At.fail
theorem tW{a y:Value}{b:V}(ha:VR Y0 (.ref n) a)(hb:VR Y0 b y):Sim U Y0 VR (lB "dict.pop" [.ref n,b]) (call (.builtin "dict.pop") [a,y]):=by
 refine Sim.of_at λY s r ex st=>?_;obtain x12|ax|Ah|rfl:=ha.mono ex;have hb:=hb.mono ex;show At U Y s r VR (CX n >>=λo=>_) _;refine At.geto λo ho=>?_
 induction o with
 | dict es ep=>
  refine At.need λhn=>?_;simp only [Bool.and_eq_true] at hn;obtain x02|hn|hz:=hn;refine At.opt λv hv=>?_;refine At.dict hn.1 λT Z c k hk=>?_;subst hk;have hlen:=(aQ.mp ho).1;obtain x14|Aj|g1|x1|Dn|nd:=st.at ho (ndd rfl) Ah;obtain x12|xs|d1|r1:=Dn;refine At.done (a:=v) (s':={s with h:=s.h.set n (.dict (zB (c.enc k) es) (ep+1))}) (by rw [nA (s₁:={s with h:=s.h.set n (.dict (zB (c.enc k) es) (ep+1))}) (a:=()) (by unfold GX;rw [aN hlen])];rfl) λQ E kk=>?_;have hf:=wF c hn.2 r1 k;rw [hv] at hf;cases h2:findBy c.knd.is xs.toArray k with
  | none=>rw [h2] at hf;exact hf.elim
  | some u=>
   rw [h2] at hf;have hT:r.TypeIs (.ref ax) "dict":=i12 Aj g1 x1.1;have Bh:(keyPart y).isSome=true:=by
    rcases SL hn.1 with ⟨i,e⟩ | ⟨i,e⟩
    ·rw [e] at hb;obtain x11|t|rfl:=hb;rfl
    ·rw [e] at hb;obtain x11|t|rfl:=hb;rfl
   refine call_meetsIn PySem.F.slot_dict_pop hT PySem.F.entry_dict_pop (PySem.F.args_dict_pop_2 _ _) (IH (c.val Y k y hb) Bh) ⟨Aj,xs,ep,u,g1,x1,d1,FC c hn.2 r1,h2,iH r1 hz,λh' o' tk h1 h2 h3 h4=>?_⟩;exact kk Y _ _ (Ext.refl Y) (st.upd (tk:=tk) ho (ndd rfl) Ah (λb ob hb e=>h4.extBut b ob hb e) (.inr ⟨o',h1,h2,⟨_,h3,XP c hn.2 r1⟩,rH nd⟩)) hf
 | _=>exact At.fail
theorem CV{b:V}{u y:Value}(hu:VR Y0 (.str x) u)(hb:VR Y0 b y):Sim U Y0 VR (lB "str.join" [.str x,b]) (call (.builtin "str.join") [u,y]):=by
 refine Sim.of_at λY s r ex st=>?_;obtain x11|t|rfl:=hu;show At U Y s r VR (IX b >>=λvs=>DX (WH vs) >>=λl=>BX (decide _) >>=λZ=>Pure.pure (.str (Txt.join x l))) _;refine At.listAt st (hb.mono ex) λn vs ax xs k e1 h1 e2 Ah g r1=>?_;subst e2;refine At.opt λl hl=>At.need λhn=>At.pure st λQ E kk=>?_;obtain x02|hn1|hn2:=aX hn;exact join_listW (GC g) (by simpa using RI hl r1) hn1 hn2 λt' k=>kk _ k ⟨_,rfl⟩
theorem wT{s:Shared}{y:Str}{t u:Tok}{Q:Value->Shared->Prop}(hy:(y.length==0)=false)
  (h:∀ l k,l.map (·.1)=Txt.split x y->Q (.ref s.heap.objs.size) {s with heap:=s.heap.push {cls:= .type "list",data:= .seq (strValues l).toArray},toks:=k})
  (Af:x.length+2<=sizeLine):wpAny (model prog w) A (call (.builtin "str.split") [.str x t,.str y u]) Q E s:=by
 have hn:(Builtin.Str.partsBetween x (Builtin.Str.occurrences x y 0 x.length (x.length+1)) y.length).length<=sizeLine:=by
  have e1:=StrLaws.occ_length_le x y 0 x.length (x.length+1);rw [length_partsBetween];exact aE (bP e1) Af
 cases h1:(decide (x.length < y.length) || decide (Builtin.Str.strKind x < Builtin.Str.strKind y))
 ·cases hf:(Builtin.Str.occurrences x y 0 x.length (x.length+1)).isEmpty
  ·refine call_meets F.slot_str_split (typeIs_str _ _ _) F.entry_str_split (F.args_str_split_2 _ _) (meets_str_split_sep x y t u h1 hy hf (aE (bM _ 2) Af) hn) ?_;show wants Q E _ {s with toks:=_,heap:=s.heap.push {cls:= .type "list",data:= .seq (strsFrom s.toks (Builtin.Str.partsBetween x (Builtin.Str.occurrences x y 0 x.length (x.length+1)) y.length)).toArray}};rw [strsFrom_eq];exact h (numbered s.toks _) _ ((numbered_texts _ _).trans ((aJ (ne_true_of_eq_false h1)).trans (aJ (ne_true_of_eq_false hf))).symm)
  ·exact call_meets F.slot_str_split (typeIs_str _ _ _) F.entry_str_split (F.args_str_split_2 _ _) (meets_str_split_not_found x y t u h1 hy hf)
    (h [(x,t)] s.toks ((aJ (ne_true_of_eq_false h1)).trans (aN hf)).symm)
 ·exact call_meets F.slot_str_split (typeIs_str _ _ _) F.entry_str_split (F.args_str_split_2 _ _) (meets_str_split_cannot_occur x y t u h1)
   (h [(x,t)] s.toks (aN h1).symm)
theorem At.newV{β:Type}{R:List Addr->V->β->Prop}{t:Sem β}(st:StL U Y s r)(o:O)(ob:Obj)(b:β)(tk:Tok)(hf:ob.isFreed=false)(hr:OR U.G.w (Y++ [r.heap.objs.size]) o ob)(hR:R (Y++ [r.heap.objs.size]) (.ref s.h.length) b)
  (h:∀ (Q:β->Shared->Prop) (E:Value->Shared->Prop),Q b {r with heap:=r.heap.push ob,toks:=tk}->wpAny (model U.prog U.G.w) U.A t Q E r) (hl:∀ b sc ce,o≠O.lam b sc ce:=by exact nl rfl):At U Y s r R (FX o >>=λn=>Pure.pure (V.ref n)) t:=
 At.done (a:= .ref s.h.length) (s':={s with h:=s.h++ [o]}) rfl λQ E k=>h Q E (k _ _ _ (Ext.one _ _) (st.alloc (tk:=tk) (λb o e=>aM _ e) Heap.fresh_none (bC _ hf) hr (aV st.big) hl) hR)
theorem HV{y:Str}{u v:Value}(hu:VR Y0 (.str x) u)(hv:VR Y0 (.str y) v):Sim U Y0 VR (lB "str.split" [.str x,.str y]) (call (.builtin "str.split") [u,v]):=by
 refine Sim.of_at λY s r ex st=>?_;obtain x11|t|rfl:=hu;obtain x11|t'|rfl:=hv;show At U Y s r VR (BX (decide _) >>=λZ=>FX (.list ((Txt.split x y).map V.str)) >>=λn=>Pure.pure (V.ref n)) _;refine At.need λhn=>?_;obtain x02|hn1|hn2:=aX hn;refine At.done (a:= .ref s.h.length) (s':={s with h:=s.h++ [.list ((Txt.split x y).map V.str)]}) rfl λQ E k=>?_;refine wT (by simpa using aV hn1) (λl tk hl=>?_) (aE (dM hn2 (by decide:2<=100000)) (by decide+kernel));refine k _ _ _ (Ext.one _ _) (st.alloc (tk:=tk) (λb o e=>aM _ e) Heap.fresh_none (bC _ rfl) ⟨i03 rfl rfl rfl,_,0,rfl,?_⟩ (aV st.big)) (HC st);rw [<-hl];exact BM l
end
end
section
open PyProof.Rows.LSm
section
variable {lt:α->α->Bool}
theorem GI(x:α):∀ l:List α,(JE lt x l).Perm (x::l):=by
 intro l
 induction l with
 | nil=>exact .refl _
 | cons y r ih=>
  rw [pG];split
  ·exact ((ih).cons y).trans (.swap x y r)
  ·exact .refl _
theorem iF:∀ l:List α,(SA lt l).Perm l:=by
 intro l
 induction l with
 | nil=>exact .refl _
 | cons x r ih=>exact (GI x _).trans ((ih).cons x)
theorem FK(asym:∀ a b,lt a b=true->lt b a=false)(tr:∀ a b c,lt b a=false->lt c b=false->lt c a=false)(x:α):∀ {l:List α},l.Pairwise (λa b=>lt b a=false)->(JE lt x l).Pairwise λa b=>lt b a=false:=by
 intro l
 induction l with
 | nil=>intro _;rw [OL];simp
 | cons y r ih=>
  intro h;obtain x02|h1|h2:=dE.mp h;rw [pG];split
  ·rename_i hx;refine dE.mpr ⟨λz hz=>?_,ih h2⟩;rcases aZ.mp ((GI x r).mem_iff.mp hz) with rfl | hz
   ·exact asym _ _ hx
   ·exact h1 z hz
  ·rename_i hx;have hx:lt y x=false:=by simpa using hx
   refine dE.mpr ⟨λz hz=>?_,h⟩;rcases aZ.mp hz with rfl | hz
   ·exact hx
   ·exact tr x y z hx (h1 z hz)
theorem NF(asym:∀ a b,lt a b=true->lt b a=false)(tr:∀ a b c,lt b a=false->lt c b=false->lt c a=false):∀ l:List α,(SA lt l).Pairwise λa b=>lt b a=false:=by
 intro l
 induction l with
 | nil=>exact .nil
 | cons x r ih=>exact FK asym tr x (ih)
theorem OF(asym:∀ a b,lt a b=true->lt b a=false)(tr:∀ a b c,lt b a=false->lt c b=false->lt c a=false)(tot:∀ a b,lt a b=false->lt b a=false->a=b){l l':List α}(hp:l'.Perm l)(hs:l'.Pairwise λa b=>lt b a=false):l'=SA lt l:=
 List.Perm.eq_of_pairwise (le:=λa b=>lt b a=false) (λa b Z Z h1 h2=>tot a b h2 h1) hs (NF asym tr l) (hp.trans (iF l).symm)
end
theorem jC(a b:Str)(h:jB a b=true):jB b a=false:=by
 unfold jB at*;simp only [decide_eq_true_eq,decide_eq_false_iff_not] at*;exact List.lt_asymm h
theorem FN(a b c:Str)(h1:jB b a=false)(h2:jB c b=false):jB c a=false:=by
 unfold jB at*;simp only [decide_eq_false_iff_not,List.not_lt] at*;exact List.le_trans h1 h2
theorem kL(a b:Str)(h1:jB a b=false)(h2:jB b a=false):a=b:=by
 unfold jB at*;simp only [decide_eq_false_iff_not,List.not_lt] at*;have:=List.le_antisymm h2 h1;obtain ⟨a⟩:=a;obtain ⟨b⟩:=b;have e:a.toList=b.toList:=this;rw [Array.toList_inj.mp e]
theorem OE{l l':List Int}(hp:l'.Perm l)(hs:l'.Pairwise (· <= ·)):l'=SA (λa b=>decide (a < b)) l:=by
 refine OF (lt:=λa b:Int=>decide (a < b)) (λa b h=>bE (dG.mpr (eS (aX h)))) (λa b c h1 h2=>bE (dG.mpr (bD (dG.mp (of_decide_eq_false h1)) (dG.mp (of_decide_eq_false h2))))) (λa b h1 h2=>Int.le_antisymm (dG.mp (of_decide_eq_false h2)) (dG.mp (of_decide_eq_false h1))) hp (hs.imp λh=>?_);exact bE (dG.mpr h)
theorem HF:∀ (p:Str) (l:List Str),risingS p l=true->(p::l).Pairwise λa b=>jB b a=false:=by
 intro p l
 induction l generalizing p with
 | nil=>intro _;exact List.pairwise_singleton _ _
 | cons x r ih=>
  intro h;have h':(!ltCps x.cps.toList p.cps.toList && risingS x r)=true:=h;rw [bY,Bool.not_eq_true'] at h';have ih:=ih x h'.2;have hx:jB x p=false:=by unfold jB;rw [<-ltCps_eq];exact h'.1
  refine dE.mpr ⟨λz hz=>?_,ih⟩;rcases aZ.mp hz with rfl | hz
  ·exact hx
  ·exact FN p x z hx ((dE.mp ih).1 z hz)
theorem PE{l l':List Str}(hp:l'.Perm l)(hs:sortedS l'=true):l'=SA jB l:=by
 refine OF jC FN kL hp ?_
 induction l' using lCq with
 | nil=>exact .nil
 | cons x r=>exact HF x r hs
theorem AQ:∀ {xs:List Value} {l:List Int},IntsAre xs l->VsR Y (l.map V.int) xs:=λh=>by
 induction h with
 | nil=>exact trivial
 | cons _ t _ ih=>exact ⟨⟨t,rfl⟩,ih⟩
theorem EU:∀ {xs:List Value} {l:List Str},StrsAre xs l->VsR Y (l.map V.str) xs:=λh=>by
 induction h with
 | nil=>exact trivial
 | cons _ t _ ih=>exact ⟨⟨t,rfl⟩,ih⟩
section
variable {s:Shared}
theorem tI{vs:List Value}{ss:List Str}{P:PySem.Fin->Shared->Prop}(ho:s.heap.get? a=some (seqObj "list" vs.toArray n))(hS:StrsAre vs ss)(h64:vs.length < 64)
  (h:∀ (out:Array Value) (ss':List Str),StrsAre out.toList ss'->ss'.Perm ss->sortedS ss'=true->P (.done (.ret .none)) {s with heap:=sortedHeap s.heap a vs out}):
  wpAny (model prog w) A (Builtin.«list.sort» ⟨[.ref a],[]⟩) P E s:=by
 refine list_sort_treeK strKind_oneLt ho hS.keysOf (λv₁ v₂ iY e=>keyKind_strs (by rw [<-e];exact hS)) h64 λst' hp hs=>?_;obtain x13|ss'|h1|h2|h3:=sorted_out_str hS hp hs;exact h _ ss' h1 h2 h3
theorem UH{K:Type} [DecidableEq K]{knd:KeyKind prog w K}{d:Addr}{kvs:List (K×Value)}{ep:Nat}{Q:Value->Shared->Prop}(hh:A.handled=none)(lo:(d==sysModules)=false)(hm:s.heap.DictAt knd d kvs ep)(hn:kvs.length < 64)
  (h:∀ (h':Heap) (tk:Nat) (vs:List Value),(∀ b o,s.heap.get? b=some o->h'.get? b=some o)->vs.length=kvs.length->(∀ (j:Nat) (v:Value),vs[j]? =some v->∃ k x,kvs[j]? =some (k,x)/\knd.is k v=true)->
   wpAny (model prog w) A.in1.in1 (Builtin.«list.sort» ⟨[.ref h'.objs.size],[]⟩) (λfin s'=>fin= .done (.ret .none)/\Q (.ref h'.objs.size) s') (λZ Z=>False) {s with heap:=h'.push (seqObj "list" vs.toArray 0),toks:=tk}):
  wpAny (model prog w) A (call (.builtin "sorted") [.ref d]) Q E s:=by
 refine call_function_entry kind_sorted plain_sorted entry_sorted (args_sorted1 _) ?_;unfold Builtin.«sorted»;refine aA (m:=checkCount "sorted" 1 1 _) (aG ?_);have Af:kvs.length<=sizeLine:=aE (cC hn) (aE (by decide) FA);refine aA (kdu_collect (A:=A.in1) (kdl_dict (knd:=knd) (kvs:=kvs) (ep:=ep) lo) hh hm Af λh' tk acc hk jY=>?_);have hl:acc.toList.length=kvs.length:=by rw [Array.length_toList];exact jY.1
 refine aA (gV ?_ (by rw [hl];exact Af));have hg:=h h' tk acc.toList hk hl (λj v e=>jY.2 j v (by rw [<-fU];exact e));refine aA (bT (dQ slot_list_sort (i12 _ (bC _ rfl) rfl) entry_list_sort (fG hg (λfin s' x=>?_) λZ Z e=>e.elim) (args_list_sort _)));obtain x02|rfl|hq:=x;exact i12 _ rfl (aG (i12 _ rfl hq))
end
theorem QE{h h':Heap}(hk:∀ b o,h.get? b=some o->h'.get? b=some o)(vs:List Value)(out:Array Value):
  (∀ b o,h.get? b=some o->(sortedHeap (h'.push (seqObj "list" vs.toArray 0)) h'.objs.size vs out).get? b=some o)/\∃ e,(sortedHeap (h'.push (seqObj "list" vs.toArray 0)) h'.objs.size vs out).get? h'.objs.size=some (seqObj "list" out e):=by
 refine ⟨λb o e=>?_,sortedHeap_at (n:=0) (bC _ rfl)⟩;have e':=hk b o e;have hlt:=cP e';rw [sortedHeap_old (bG hlt) (by rw [size_push'];exact bW hlt)];exact aM _ e'
section
variable {U:Lev} {Y0:List Addr} {s:S} {r:Shared}
theorem At.newList{β:Type}{R:List Addr->V->β->Prop}{t:Sem β}(st:StL U Y s r)(vs:List V)
  (h:∀ (Q:β->Shared->Prop) (E:Value->Shared->Prop),(∀ D b h' tk xs e,(∀ b o,r.heap.get? b=some o->h'.get? b=some o)->r.heap.get? D=none->D≠sysModules->h'.get? D=some {cls:= .type "list",data:= .seq (List.toArray xs) e}->VsR Y vs xs->((Y++ [D])[s.h.length]? =some D->R (Y++ [D]) (.ref s.h.length) b)->Q b {r with heap:=h',toks:=tk})->wpAny (model U.prog U.G.w) U.A t Q E r):
  At U Y s r R (FX (.list vs) >>=λn=>Pure.pure (V.ref n)) t:=
 At.done (a:= .ref s.h.length) (s':={s with h:=s.h++ [.list vs]}) rfl λQ E k=>h Q E λD b h' tk xs e hk hn h0 hD hr hb=>
  k _ _ _ (Ext.one _ _) (st.alloc (tk:=tk) hk hn hD ⟨i03 rfl rfl rfl,xs,e,rfl,hr.mono (Ext.one _ _)⟩ h0) (hb (by rw [<-st.len];simp))
theorem NH(h:Heap)(hn:h.objs.size<=n):h.get? n=none:=by
 cases e:h.get? n with
 | none=>rfl
 | some o=>exact aS (cP e) (cB.mpr hn)
theorem St.past{G:Ground}{C:Addr}{kp:Kept}(x:St G C kp Y s r){h':Heap}(hk:∀ b o,r.heap.get? b=some o->h'.get? b=some o):r.heap.get? h'.objs.size=none/\h'.objs.size≠sysModules:=by
 constructor
 ·cases e:r.heap.get? h'.objs.size with
  | none=>rfl
  | some o=>exact aS (cP (hk _ _ e)) (dO _)
 ·obtain x11|o|e:=x.ns_some;exact aV (bB x.low.1 (cP (hk _ _ e)))
theorem GO(h:xD (es.map (·.1))=some vs):(uA (.int 0) es=true/\∃ l,es.map (·.1)=l.map V.int/\vs=(SA (λa b=>decide (a < b)) l).map V.int)\/(uA (.str ⟨#[]⟩) es=true/\∃ l,es.map (·.1)=l.map V.str/\vs=(SA jB l).map V.str):=by
 have like:∀ {α:Type} {g:α->V} {k:V} (es:List (V×V)) (l:List α),(∀ a,FE k (g a)=true)->es.map (·.1)=l.map g->uA k es=true:=λ{α g k} es l hk h=>by
  unfold uA;rw [show (λe:V×V=>FE k e.1)=(FE k)∘(·.1) from rfl,<-List.all_map,h,List.all_map,eB];exact λa Z=>hk a
 unfold xD at h;cases hl:NE (es.map (·.1)) with
 | some l=>
  rw [hl] at h;cases h;have b:=BD (g:=V.int) (λv a h=>by induction v <;> first | exact nos h | (cases h;rfl)) hl;exact .inl ⟨like es l (λZ=>rfl) b,l,b,rfl⟩
 | none=>
  rw [hl] at h;cases hl:WH (es.map (·.1)) with
  | some l=>
   dsimp only at h;rw [hl] at h;cases h;have b:=BD (g:=V.str) (λv a h=>by induction v <;> first | exact nos h | (cases h;rfl)) hl;exact .inr ⟨like es l (λZ=>rfl) b,l,b,rfl⟩
  | none=>dsimp only at h;rw [hl] at h;cases h
theorem wR{us:List V}{ax:Addr}(st:StL U Y s r)(hv:xD vs=some us)(hz:vs.length < 64)(g:r.heap.get? ax=some {cls:= .type "list",data:= .seq (List.toArray xs) k})(r1:VsR Y vs xs):
  At U Y s r VR (FX (.list us) >>=λn=>Pure.pure (V.ref n)) (call (.builtin "sorted") [.ref ax]):=by
 refine At.newList st us λQ E kk=>?_;have hz':xs.length < 64:=by rw [<-r1.length];exact hz
 have hD:r.heap.get? (r.heap.objs.size+1)=none:=NH _ (cE _);have h0:r.heap.objs.size+1≠sysModules:=aV (bW st.big);unfold xD at hv;cases hl:NE vs with
 | some l=>
  rw [hl] at hv;cases hv;refine sorted_ints (GC g) (qG hl r1) hz' λout ns' a1 a2 a3=>?_;obtain x11|e|he:=sortedAll_at r.heap xs out;refine kk (r.heap.objs.size+1) _ _ r.toks out.toList e (λb o e=>sortedAll_old e) hD h0 (by simpa using he) ?_ λhf=>i12 _ hf rfl;rw [<-OE a2 a3];exact AQ a1
 | none=>
  rw [hl] at hv;dsimp only at hv;cases hl:WH vs with
  | none=>rw [hl] at hv;cases hv
  | some l=>
   rw [hl] at hv;cases hv;refine sorted_strs (GC g) (RI hl r1) hz' λout ns' a1 a2 a3=>?_;obtain x11|e|he:=sortedAll_at r.heap xs out;refine kk (r.heap.objs.size+1) _ _ r.toks out.toList e (λb o e=>sortedAll_old e) hD h0 (by simpa using he) ?_ λhf=>i12 _ hf rfl;rw [<-PE a2 a3];exact EU a1
theorem WR{kvs:List (Int×Value)}{l:List Int}(hl:kvs.map (·.1)=l)(h1:xs.length=kvs.length)(h2:∀ (j:Nat) (v:Value),xs[j]? =some v->∃ k x,kvs[j]? =some (k,x)/\Value.isInt k v=true):IntsAre xs l:=by
 induction xs generalizing kvs l with
 | nil=>induction kvs using lCq with
  | nil=>induction hl;exact .nil
  | cons _ _=>cases h1
 | cons x xs ih=>induction kvs using lCq with
  | nil=>cases h1
  | cons p kvs=>
   induction hl
   obtain x22|k|y|e|hk:=h2 0 x rfl;cases e;obtain x11|t|rfl:=Value.isInt_shape hk;exact .cons _ t (ih rfl (by simpa using h1) λj v e=>by simpa using h2 (j+1) v (by simpa using e))
theorem YR{kvs:List (Str×Value)}{l:List Str}(hl:kvs.map (·.1)=l)(h1:xs.length=kvs.length)(h2:∀ (j:Nat) (v:Value),xs[j]? =some v->∃ k x,kvs[j]? =some (k,x)/\Value.isStrOf k v=true):StrsAre xs l:=by
 induction xs generalizing kvs l with
 | nil=>induction kvs using lCq with
  | nil=>induction hl;exact .nil
  | cons _ _=>cases h1
 | cons x xs ih=>induction kvs using lCq with
  | nil=>cases h1
  | cons p kvs=>
   induction hl
   obtain x22|k|y|e|hk:=h2 0 x rfl;cases e;obtain x11|t|rfl:=Value.isStrOf_shape hk;exact .cons _ t (ih rfl (by simpa using h1) λj v e=>by simpa using h2 (j+1) v (by simpa using e))
theorem vR(hh:U.A.handled=none){ep:Nat}{us:List V}{ax:Addr}(st:StL U Y s r)(ho:s.h[n]? =some (.dict es ep))(ea:Y[n]? =some ax)(hv:xD (es.map (·.1))=some us)(hz:es.length < 64):
  At U Y s r VR (FX (.list us) >>=λn=>Pure.pure (V.ref n)) (call (.builtin "sorted") [.ref ax]):=by
 refine At.newList st us λQ E kk=>?_;obtain x14|Aj|g1|x1|Dp|nd:=st.at ho (ndd rfl) ea;obtain x12|xs|d1|r1:=Dp;have inj1:∀ a b:Int,V.int a=V.int b->a=b:=λa b h=>by cases h;rfl
 have inj2:∀ a b:Str,V.str a=V.str b->a=b:=λa b h=>by cases h;rfl
 have mapinj:∀ {α:Type} {f:α->V} (hf:∀ a b,f a=f b->a=b) {l l':List α},l.map f=l'.map f->l=l':=λ{Z Z} hf {l l'} h=>(List.map_inj_right hf).mp h;rcases GO hv with ⟨hk,l,hl,rfl⟩ | ⟨hk,l,hl,rfl⟩
 ·have DA:=uF (encI U.prog U.G.w) (j:=0) g1 x1 d1 hk r1 nd;have kl:=pD (encI U.prog U.G.w) (j:=0) hk r1;have kk':=AE (encI U.prog U.G.w) (j:=0) hk r1;have hl':(ID (encI U.prog U.G.w) es xs).map (·.1)=l:=by
   refine mapinj inj1 ?_;rw [<-hl,<-kk',aP];rfl
  refine UH hh (st.ne_mods ea) DA (by rw [kl];exact hz) λh' tk ys Bh h1 h2=>?_;refine list_sort_tree (n:=0) (bC _ rfl) (WR hl' h1 h2) (by rw [h1,kl];exact hz) λout ns' a1 a2 a3=>⟨rfl,?_⟩;obtain x02|q1|Do:=QE Bh ys out;obtain x11|e|q2:=Do;obtain x02|hn0|hm0:=st.past Bh;refine kk h'.objs.size _ _ tk out.toList e q1 hn0 hm0 (by simpa using q2) ?_ λhf=>i12 _ hf rfl;rw [<-OE a2 a3];exact AQ a1
 ·have DA:=uF (encS U.prog U.G.w) (j:=⟨#[]⟩) g1 x1 d1 hk r1 nd;have kl:=pD (encS U.prog U.G.w) (j:=⟨#[]⟩) hk r1;have kk':=AE (encS U.prog U.G.w) (j:=⟨#[]⟩) hk r1;have hl':(ID (encS U.prog U.G.w) es xs).map (·.1)=l:=by
   refine mapinj inj2 ?_;rw [<-hl,<-kk',aP];rfl
  refine UH hh (st.ne_mods ea) DA (by rw [kl];exact hz) λh' tk ys Bh h1 h2=>?_;refine tI (n:=0) (bC _ rfl) (YR hl' h1 h2) (by rw [h1,kl];exact hz) λout ns' a1 a2 a3=>⟨rfl,?_⟩;obtain x02|q1|Dn:=QE Bh ys out;obtain x11|e|q2:=Dn;obtain x02|hn0|hm0:=st.past Bh;refine kk h'.objs.size _ _ tk out.toList e q1 hn0 hm0 (by simpa using q2) ?_ λhf=>i12 _ hf rfl;rw [<-PE a2 a3];exact EU a1
end
end
section
open PyProof.Rows.LSm
noncomputable def runT(c:Nat->Nat->Bool):KasT α->α
 | .ret a=>a
 | .ask i j k=>runT c (k (c i j))
noncomputable def AskOk(n:Nat)(P:α->Prop):KasT α->Prop
 | .ret a=>P a
 | .ask i j k=>i < n/\j < n/\∀ b,AskOk n P (k b)
theorem CN{c:Nat->Nat->Bool}{i j:Nat}{k:Bool->KasT α}:runT c (.ask i j k)=runT c (k (c i j)):=rfl
theorem qE{β:Type}{c:Nat->Nat->Bool}{f:α->KasT β}:∀ t:KasT α,runT c (t.bind f)=runT c (f (runT c t)):=by
 intro t
 induction t with
 | ret a=>rfl
 | ask i j k ih=>exact ih (c i j)
theorem AskOk.bind{β:Type}{P:α->Prop}{P':β->Prop}{f:α->KasT β}(hf:∀ a,P a->AskOk n P' (f a)):∀ {t:KasT α},AskOk n P t->AskOk n P' (t.bind f):=by
 intro t
 induction t with
 | ret a=>intro h;exact hf _ h
 | ask i j k ih=>intro q;exact i03 q.1 q.2.1 λb=>ih b (q.2.2 b)
theorem AskOk.run{P:α->Prop}{c:Nat->Nat->Bool}{cmp:Nat->Nat->(Bool->Shared->Prop)->Shared->Prop}{Q:α->Shared->Prop}{s:Shared}(hc:∀ i j (C:Bool->Shared->Prop),i < n->j < n->C (c i j) s->cmp i j C s):∀ {t:KasT α},AskOk n P t->Q (runT c t) s->t.kasWp cmp Q s:=by
 intro t
 induction t with
 | ret a=>intro _ h;exact h
 | ask i j k ih=>intro q h;exact hc i j _ q.1 q.2.1 (ih _ (q.2.2 _) h)
section
variable {p:Array Nat}
def Bnd(n:Nat)(p:Array Nat):Prop:=∀ x∈p.toList,x < n
theorem Bnd.get(hn:0 < n)(h:Bnd n p)(i:Nat):p.getD i 0 < n:=by
 unfold Array.getD;split
 ·exact h _ (by simp)
 ·exact hn
theorem Bnd.perm{q:Array Nat}(h:Bnd n p)(e:q.Perm p):Bnd n q:=λx hx=>h x ((Array.perm_iff_toList_perm.mp e).mem_iff.mp hx)
theorem Bnd.rev(h:Bnd n p)(i j:Nat):Bnd n (kas_rev p i j):=h.perm (mirror_perm _ _ _ _)
theorem Bnd.bub(h:Bnd n p)(i j:Nat):Bnd n (bubble p i j):=h.perm (bubble_perm _ _ _)
theorem wP(hn:0 < n)(h:Bnd n p):∀ f a,AskOk n (λZ=>True) (kas_asc p f a):=by
 intro f
 induction f with
 | zero=>intro _;exact trivial
 | succ f ih=>intro a;exact i03 (h.get hn _) (h.get hn _) λb=>by dsimp only;split;exact trivial;exact ih (a+1)
theorem kS(hn:0 < n):∀ f {p:Array Nat} a q,Bnd n p->AskOk n (λr=>Bnd n r.1) (kas_desc f p a q):=by
 intro f
 induction f with
 | zero=>intro p a q h;exact h
 | succ f ih=>
  intro p a q h;refine i03 (h.get hn _) (h.get hn _) λb=>?_;dsimp only;split
  ·split
   ·exact ih _ _ (h.rev _ _)
   ·exact ih _ _ h
  ·refine i03 (h.get hn _) (h.get hn _) λd=>?_;dsimp only;split
   ·exact h
   ·exact ih _ _ h
theorem OM(hn:0 < n)(h:Bnd n p)(a r:Nat):AskOk n (λr=>Bnd n r.2) (kas_tail3 a r p):=by
 unfold kas_tail3;refine AskOk.bind (P:=λZ=>True) (P':=λr:Nat×Array Nat=>Bnd n r.2) (f:=λm=>KasT.ret (m,kas_rev p 0 a)) (λZ Z=>?_) (wP hn (h.rev _ _) _ _);exact h.rev 0 a
theorem FG(hn:0 < n)(h:Bnd n p)(a r:Nat):AskOk n (λr=>Bnd n r.2) (kas_descPart a r p):=(kS hn _ _ _ h).bind λx hx=>by
 split
 ·exact OM hn (hx.rev _ _) _ _
 ·exact OM hn hx _ _
theorem yP(hn:0 < n)(h:Bnd n p)(r:Nat):AskOk n (λr=>Bnd n r.2) (kas_count r p):=(wP hn h _ _).bind λm Z=>by
 split
 ·exact h
 ·split
  ·refine i03 (h.get hn _) (h.get hn _) λb=>?_;dsimp only;split
   ·exact h
   ·exact FG hn (h.rev _ _) _ _
  ·exact FG hn h _ _
theorem zP(hn:0 < n)(h:Bnd n p)(k:Nat):∀ f l r,AskOk n (λZ=>True) (kas_place p k f l r):=by
 intro f
 induction f with
 | zero=>intro _ _;exact trivial
 | succ f ih=>
  intro l r;unfold kas_place;split
  ·exact trivial
  ·refine i03 (h.get hn _) (h.get hn _) λb=>?_;dsimp only;split
   ·exact ih _ _
   ·exact ih _ _
theorem xP(hn:0 < n):∀ f {p:Array Nat} k,Bnd n p->AskOk n (λr=>Bnd n r) (kas_bin f p k)
 | 0,_,_,h=>h
 | f+1,p,k,h=>(zP hn h k _ _ _).bind λl Z=>xP hn f _ (h.bub _ _)
theorem mS(hn:0 < n):AskOk n (λr=>Bnd n r) (kas_sort n):=by
 refine (yP hn (p:=(List.range n).toArray) (λx hx=>by simpa using hx) n).bind λr hr=>?_;split
 ·exact xP hn _ _ hr
 ·exact hr
end
structure Ord(n:Nat)(c:Nat->Nat->Bool):Prop where
 asym:∀ a b,a < n->b < n->c a b=true->c b a=false
 trans:∀ a b d,a < n->b < n->d < n->c a b=true->c b d=true->c a d=true
 total:∀ a b,a < n->b < n->a≠b->c a b=false->c b a=true
section
variable {c:Nat->Nat->Bool} (O:Ord n c)
noncomputable abbrev PG(p:Array Nat)(i:Nat):Nat:=p.getD i 0
structure Plc(n:Nat)(p:Array Nat):Prop where
 size:p.size=n
 perm:p.toList.Perm (List.range n)
variable {p:Array Nat}
theorem Plc.lt(h:Plc n p){i:Nat}(hi:i < n):PG p i < n:=by
 have hs:i < p.size:=by rw [h.size];exact hi
 unfold PG Array.getD;rw [dif_pos hs];exact List.mem_range.mp (h.perm.mem_iff.mp (by simp))
theorem Plc.inj(h:Plc n p){i j:Nat}(hi:i < n)(hj:j < n)(hij:i≠j):PG p i≠PG p j:=by
 have hs:i < p.size:=by rw [h.size];exact hi
 have ht:j < p.size:=by rw [h.size];exact hj
 have nd:p.toList.Nodup:=h.perm.nodup_iff.mpr List.nodup_range;unfold PG Array.getD;rw [dif_pos hs,dif_pos ht];intro e;refine hij ((List.getElem_inj (h₀:=by simpa using hs) (h₁:=by simpa using ht) nd).mp ?_);rw [Array.getElem_toList,Array.getElem_toList];exact e
theorem Plc.of_perm(h:Plc n p){q:Array Nat}(e:q.Perm p):Plc n q:=⟨e.size_eq.trans h.size,(Array.perm_iff_toList_perm.mp e).trans h.perm⟩
def Up(c:Nat->Nat->Bool)(p:Array Nat)(m:Nat):Prop:=∀ i j,i < j->j < m->c (PG p i) (PG p j)=true
def Down(c:Nat->Nat->Bool)(p:Array Nat)(m:Nat):Prop:=∀ i j,i < j->j < m->c (PG p j) (PG p i)=true
include O
theorem Up.succ(h:Plc n p){a:Nat}(ha:1<=a)(han:a < n)(u:Up c p a)(hc:c (PG p a) (PG p (a - 1))=false):Up c p (a+1):=by
 have h1:=O.total _ _ (h.lt han) (h.lt (n1 han)) (h.inj han (n1 han) (aV (n2 ha))) hc;intro i j hij hj;by_cases e:j=a
 ·subst e;by_cases e2:i=j - 1
  ·subst e2;exact h1
  ·exact O.trans _ _ _ (h.lt (bB hij han)) (h.lt (n1 han)) (h.lt han) (u i (j - 1) (n4 hij e2) (n2 ha)) h1
 ·exact u i j hij (n3 hj e)
theorem Down.succ(h:Plc n p){a:Nat}(ha:1<=a)(han:a < n)(u:Down c p a)(hc:c (PG p a) (PG p (a - 1))=true):Down c p (a+1):=by
 intro i j hij hj;by_cases e:j=a
 ·subst e;by_cases e2:i=j - 1
  ·subst e2;exact hc
  ·exact O.trans _ _ _ (h.lt han) (h.lt (n1 han)) (h.lt (bB hij han)) hc (u i (j - 1) (n4 hij e2) (n2 ha))
 ·exact u i j hij (n3 hj e)
omit O in
theorem jS(f a:Nat):runT c (kas_asc p (f+1) a)=if c (PG p a) (PG p (a - 1))=true then a else runT c (kas_asc p f (a+1)):=by
 show runT c (if c (PG p a) (PG p (a - 1))=true then .ret a else kas_asc p f (a+1))=_;split <;> rfl
omit O in
theorem PP(f a q:Nat):runT c (kas_desc (f+1) p a q)=if c (PG p a) (PG p (a - 1))=true then (if q > 0 then runT c (kas_desc f (kas_rev p (a - (q+1)) a) (a+1) 0) else runT c (kas_desc f p (a+1) 0))
  else if c (PG p (a - 1)) (PG p a)=true then (p,a,q) else runT c (kas_desc f p (a+1) (q+1)):=by
 show runT c (if c (PG p a) (PG p (a - 1))=true then (if q > 0 then kas_desc f (kas_rev p (a - (q+1)) a) (a+1) 0 else kas_desc f p (a+1) 0) else .ask (PG p (a - 1)) (PG p a) λd=>if d=true then .ret (p,a,q) else kas_desc f p (a+1) (q+1))=_;split
 ·split <;> rfl
 ·show runT c (if c (PG p (a - 1)) (PG p a)=true then .ret (p,a,q) else kas_desc f p (a+1) (q+1))=_;split <;> rfl
theorem YT(h:Plc n p):∀ f a,1<=a->a+f<=n->Up c p a->a<=runT c (kas_asc p f a)/\runT c (kas_asc p f a)<=a+f/\Up c p (runT c (kas_asc p f a))/\(runT c (kas_asc p f a) < a+f->c (PG p (runT c (kas_asc p f a))) (PG p (runT c (kas_asc p f a) - 1))=true):=by
 intro f
 induction f with
 | zero=>intro a _ _ u;exact i04 (aY _) (aY _) u λh=>aS h (dO _)
 | succ f ih=>
  intro a h1 h2 u;rw [jS];split
  ·rename_i hc;exact i04 (aY _) (bM _ _) u λZ=>hc
  ·rename_i hc;have hc:c (PG p a) (PG p (a - 1))=false:=by simpa using hc
   obtain x04|q1|q2|q3|q4:=ih (a+1) (cH _ _) (n5 h2) (Up.succ O h h1 (n6 h2) u hc);exact i04 (eU q1) (n7 q2) q3 λhl=>q4 (n8 hl)
theorem nV(h:Plc n p):∀ f a,1<=a->a+f<=n->Down c p a->∃ m,runT c (kas_desc f p a 0)=(p,m,0)/\a<=m/\m<=a+f/\Down c p m:=by
 intro f
 induction f with
 | zero=>intro a _ _ u;exact i14 a rfl (aY _) (aY _) u
 | succ f ih=>
  intro a h1 h2 u;rw [PP];split
  ·rename_i hc;rw [aJ (dO 0)];obtain x14|m|q1|q2|q3|q4:=ih (a+1) (cH _ _) (n5 h2) (Down.succ O h h1 (n6 h2) u hc);exact i14 m q1 (eU q2) (n7 q3) q4
  ·rename_i hc;have hc:c (PG p a) (PG p (a - 1))=false:=by simpa using hc
   rw [aN (O.total _ _ (h.lt (n6 h2)) (h.lt (n1 (n6 h2))) (h.inj (n6 h2) (n1 (n6 h2)) (aV (n2 h1))) hc)];exact i14 a rfl (aY _) (bM _ _) u
omit O in
theorem MT{m:Nat}(hm:m<=p.size){i:Nat}(hi:i < m):PG (kas_rev p 0 m) i=PG p (m - 1 - i):=by
 have e:=getElem?_mirror_all (xs:=p) (i:=0) (j:=m) hm i;rw [aN ⟨dA _,hi⟩] at e;have e':(kas_rev p 0 m)[i]? =p[0+m - 1 - i]?:=e;have e2:0+m - 1 - i=m - 1 - i:=by rw [cW]
 rw [e2] at e';unfold PG;simp only [Array.getD_eq_getD_getElem?,e']
theorem LV(h:Plc n p){m:Nat}(h1:1<=m)(hm:m<=n)(u:Down c p m):∃ k q,runT c (kas_tail3 m n p)=(k,q)/\Plc n q/\1<=k/\k<=n/\Up c q k:=by
 have hq:Plc n (kas_rev p 0 m):=h.of_perm (mirror_perm _ _ _ _);have uq:Up c (kas_rev p 0 m) m:=λi j hij hj=>by
  rw [MT (by rw [h.size];exact hm) (bB hij hj),MT (by rw [h.size];exact hm) hj];exact u _ _ (n9 hij hj) (n10 h1)
 obtain x04|q1|q2|q3|u_:=YT O hq (n - m) m h1 (n11 hm) uq;refine i25 _ _ ?_ hq (aE h1 q1) (aE q2 (n11 hm)) q3;unfold kas_tail3;rw [qE];rfl
theorem vS(h:Plc n p)(hn:1<=n):∃ k q,runT c (kas_count n p)=(k,q)/\Plc n q/\1<=k/\k<=n/\Up c q k:=by
 obtain x04|q1|q2|q3|q4:=YT O h (n - 1) 1 (aY _) (n11 hn) (λi j hij hj=>(fH _ (aT hij (dI hj))).elim);unfold kas_count;rw [qE]
 revert q1 q2 q3 q4;refine genI (runT c (kas_asc p (n - 1) 1)) ?_;intro m q1 q2 q3 q4
 by_cases e:m=n
 ·subst e;rw [aN (aF rfl)];exact i25 _ _ rfl h q1 (aY _) q3
 ·rw [aJ (by simpa using e)];by_cases e1:m > 1
  ·rw [aN e1];rw [CN];have:=q3 0 (m - 1) (Nat.sub_pos_of_lt e1) (n2 q1);rw [aN this];exact i25 _ _ rfl h q1 (aE q2 (n11 hn)) q3
  ·rw [aJ e1];have em:m=1:=eV (cB.mp e1) q1;subst em;unfold kas_descPart;rw [qE];have d2:Down c p 2:=λi j hij hj=>by
    have:i=0:=Nat.lt_one_iff.mp (aT hij (dI hj));have:j=1:=eV (dI hj) (bF (dA i) hij)
    subst_vars
    exact q4 (by rw [Nat.add_sub_cancel' hn];exact dL hn e)
   obtain x14|m|r1|r2|r3|r4:=nV O h (n - (1+1)) (1+1) (by decide) (n11 (dL hn e)) d2;rw [r1];dsimp only;rw [aJ (λh=>nomatch h)];exact LV O h (eU r2) (aE r3 (n11 (dL hn e))) r4
omit O in
theorem kT:∀ f l r,l<=r->r<=k->r - l<=f->(∀ i,i < l->c (PG p k) (PG p i)=false)->(∀ i,r<=i->i < k->c (PG p k) (PG p i)=true)->(∀ i j,i < j->j < k->c (PG p k) (PG p i)=true->c (PG p k) (PG p j)=true)->
  runT c (kas_place p k f l r)<=k/\(∀ i,i < runT c (kas_place p k f l r)->c (PG p k) (PG p i)=false)/\(∀ i,runT c (kas_place p k f l r)<=i->i < k->c (PG p k) (PG p i)=true):=by
 intro f
 induction f with
 | zero=>
  intro l r h1 h2 h3 a b _;have:l=r:=eV h1 (Nat.le_of_sub_eq_zero (Nat.le_zero.mp h3));subst this;exact i03 h2 a b
 | succ f ih=>
  intro l r h1 h2 h3 a b mono;unfold kas_place;by_cases e:l≥r
  ·have:l=r:=eV h1 e;subst this;rw [aN e];exact i03 h2 a b
  ·rw [aJ e];rw [CN];have h4:(l+r) / 2 < r:=Nat.div_lt_of_lt_mul (by rw [Nat.two_mul];exact Nat.add_lt_add_right (Nat.not_le.mp e) r);have h5:l<=(l+r) / 2:=(Nat.le_div_iff_mul_le (by decide)).mpr (by rw [Nat.mul_two];exact cY h1 l);cases hc:c (PG p k) (PG p ((l+r) / 2)) with
   | true=>
    simp only [hc,if_true];refine ih l ((l+r) / 2) h5 (aE (cC h4) h2) (n12 h5 h3 h4) a (λi hi hk=>?_) mono;by_cases ei:i=(l+r) / 2
    ·rw [ei];exact hc
    ·exact mono _ _ (dL hi (Ne.symm ei)) hk hc
   | false=>
    simp only [hc,Bool.false_eq_true,if_false];refine ih ((l+r) / 2+1) r h4 h2 (n13 h5 h3) (λi hi=>?_) b mono;by_cases ei:i=(l+r) / 2
    ·rw [ei];exact hc
    ·cases hx:c (PG p k) (PG p i) with
     | false=>rfl
     | true=>rw [mono i _ (n3 hi ei) (aT h4 h2) hx] at hc;cases hc
omit O in
theorem LT{l:Nat}(hk:k < p.size)(hl:l<=k)(i:Nat):PG (bubble p k (k - l)) i=if i=l then PG p k else if l < i/\i<=k then PG p (i - 1) else PG p i:=by
 have e:=getElem?_bubble hk (k - l) (gP _ _) i;have h1:k - (k - l)=l:=Nat.sub_sub_self hl;rw [h1] at e;unfold PG;simp only [Array.getD_eq_getD_getElem?,e];split
 ·rfl
 ·split <;> rfl
theorem lW:∀ f {p:Array Nat} k,Plc n p->1<=k->k+f=n->Up c p k->∃ q,runT c (kas_bin f p k)=q/\Plc n q/\Up c q n:=by
 intro f
 induction f with
 | zero=>intro p k h _ h2 u;exact ⟨p,rfl,h,by rw [<-(show k=n from h2)];exact u⟩
 | succ f ih=>
  intro p k h h1 h2 u;rw [show kas_bin (f+1) p k=(kas_place p k k 0 k).bind λl=>kas_bin f (bubble p k (k - l)) (k+1) from rfl,qE];have hkn:k < n:=n6 (bV h2);have mono:∀ i j,i < j->j < k->c (PG p k) (PG p i)=true->c (PG p k) (PG p j)=true:=λi j hij hj hc=>
   O.trans _ _ _ (h.lt hkn) (h.lt (bB (bB hij hj) hkn)) (h.lt (bB hj hkn)) hc (u i j hij hj)
  obtain x03|q1|q2|q3:=kT (p:=p) (c:=c) (k:=k) k 0 k (dA _) (aY _) (gP _ _) (λi hi=>(fH _ hi).elim) (λi hi hk=>(dO _ (aT hk hi)).elim) mono
  revert q1 q2 q3;refine genI (runT c (kas_place p k k 0 k)) ?_;intro l q1 q2 q3
  refine ih (k+1) (h.of_perm (bubble_perm _ _ _)) (cH _ _) ((cV k f 1).symm.trans h2) ?_;intro i j hij hj;have hks:k < p.size:=by rw [h.size];exact hkn
  rw [LT hks q1,LT hks q1];have up:∀ i,i < l->c (PG p i) (PG p k)=true:=λi hi=>have a:=aT hi q1;O.total _ _ (h.lt hkn) (h.lt (bB a hkn)) (h.inj hkn (bB a hkn) (aV a)) (q2 i hi);by_cases a1:i=l
  ·subst a1;rw [aN rfl,aJ (aV hij),aN ⟨hij,dI hj⟩];exact q3 _ (gB hij) (n15 hj h1)
  ·rw [aJ a1];by_cases a2:l < i/\i<=k
   ·rw [aN a2,aJ (aV (bB a2.1 hij)),aN ⟨bB a2.1 hij,dI hj⟩];exact u _ _ (Nat.sub_lt_sub_right (bF (dA l) a2.1) hij) (n15 hj h1)
   ·rw [aJ a2];by_cases b1:j=l
    ·rw [aN b1];exact up i (b1▸hij)
    ·rw [aJ b1];by_cases b2:l < j/\j<=k
     ·rw [aN b2];by_cases e:i=j - 1
      ·exact aS ⟨dL (e▸gB b2.1) (Ne.symm a1),cC (aT hij b2.2)⟩ a2
      ·exact u _ _ (n4 hij e) (n15 hj h1)
     ·rw [aJ b2];exact u _ _ hij (n3 hj λe=>b2 ⟨dL (e▸q1) (Ne.symm b1),bV e⟩)
theorem uR(hn:1<=n):Plc n (runT c (kas_sort n))/\Up c (runT c (kas_sort n)) n:=by
 have h0:Plc n (List.range n).toArray:=⟨by simp,by with_reducible rfl⟩;obtain x24|k|q|e|h1|h2|Dq:=vS O h0 hn;obtain x02|h3|u:=Dq;unfold kas_sort;rw [qE,e];dsimp only;split
 ·rename_i hk;have hm:max k 1=k:=Nat.max_eq_left h2;rw [hm];obtain x13|q'|e'|a|b:=lW O (n - k) k h1 h2 (Nat.add_sub_cancel' h3) u;rw [e'];exact ⟨a,b⟩
 ·have:k=n:=g1 ‹_› h3;subst this;exact ⟨h1,u⟩
end
noncomputable def cutH(h:Heap)(C:Nat):Heap:=⟨h.objs.extract 0 C,h.life⟩
theorem jX{h:Heap}{C:Nat}:(cutH h C).objs.size<=C:=by
 show (h.objs.extract 0 C).size<=C;rw [Array.size_extract];exact gW C h.objs.size
theorem xE{h:Heap}{C b:Nat}:(cutH h C).get? b=if b < C then h.get? b else none:=by
 have e:(h.objs.extract 0 C)[b]? =if b < C then h.objs[b]? else none:=by
  rw [Array.getElem?_extract,Nat.sub_zero,cW];by_cases hb:b < C
  ·rw [aN hb];by_cases hs:b < h.objs.size
   ·rw [aN (Nat.lt_min.mpr ⟨hb,hs⟩)]
   ·rw [aJ (λz=>hs (Nat.lt_min.mp z).2),Array.getElem?_eq_none (eM hs)]
  ·rw [aJ (λz=>hb (Nat.lt_min.mp z).1),aJ hb]
 by_cases hb:b < C
 ·rw [aN hb];unfold Heap.get?;rw [show (cutH h C).objs[b]? =h.objs[b]? from e.trans (aN hb)]
 ·rw [aJ hb];unfold Heap.get?;rw [show (cutH h C).objs[b]? =none from e.trans (aJ hb)]
noncomputable def XK(h:Heap)(C:Addr):List (Addr×Obj):=(List.range h.objs.size).filterMap λa=>if C < a then (h.get? a).map (a,·) else none
theorem mem_restH{h:Heap}{C:Addr}{p:Addr×Obj}:p∈XK h C ↔ C < p.1/\h.get? p.1=some p.2:=by
 unfold XK;rw [List.mem_filterMap];constructor
 ·intro ii;obtain x12|a|ha|e:=ii;split at e
  ·rename_i hc;obtain x12|o|ho|rfl:=bH.mp e;exact ⟨hc,ho⟩
  ·cases e
 ·intro ii;obtain x02|hc|ho:=ii;exact ⟨p.1,List.mem_range.mpr (cP ho),by rw [aN hc,ho];rfl⟩
theorem uQ{h:Heap}{C:Addr}{m:Str->Option Value}(Be:h.Ns C m):Fr (cutH h C) C h m/\News (cutH h C) C h (XK h C)/\(∀ h',Fr (cutH h C) C h' m->News (cutH h C) C h' (XK h C)->h'.Ns C m/\∀ b o,b≠C->h.get? b=some o->h'.get? b=some o)/\
  ∀ D,D≠C->(cutH h C).get? D=none->(∀ q∈XK h C,q.1 < D)->h.get? D=none:=by
 refine i04 ⟨Be,λb o e=>?_,?_⟩ (λp hp=>?_) (λh' F N=>⟨F.ns,λb o hb e=>?_⟩) λD h1 h2 h3=>?_
 ·rw [xE] at e;split at e
  ·exact e
  ·cases e
 ·exact jX
 ·obtain x02|a|b:=mem_restH.mp hp;refine i03 b (aV a) ?_;rw [xE,aJ (cB.mpr (cC a))]
 ·rcases Nat.lt_or_gt_of_ne hb with hlt | hgt
  ·exact F.keep b o (by rw [xE,aN hlt];exact e)
  ·exact (N (b,o) (mem_restH.mpr ⟨hgt,e⟩)).1
 ·cases e:h.get? D with
  | none=>rfl
  | some o=>
   rcases Nat.lt_or_gt_of_ne h1 with hlt | hgt
   ·rw [xE,aN hlt,e] at h2;cases h2
   ·exact aS (h3 (D,o) (mem_restH.mpr ⟨hgt,e⟩)) (dO _)
section
variable {G:Ground} {C:Addr} {kp:Kept} {s:S} {r:Shared}
theorem St.keepsNs(x:St G C kp Y s r){h':Heap}{m:Str->Option Value}(hm:r.heap.Ns C m)(hn:h'.Ns C m)(k:∀ b o,b≠C->r.heap.get? b=some o->h'.get? b=some o):St G C kp Y s {r with heap:=h',toks:=tk} where
 base:=λb o e=>k b o (λz=>by rw [z,x.fresh.1] at e;cases e) (x.base b o e)
 ns:=by
  obtain x12|m₀|hm₀|hl:=x.ns;refine i12 m hn λz v e=>?_;obtain x12|y|hy|hr:=hl z v e;exact i12 y ((hm.agree hm₀ z).trans hy) hr
 kept:=λq hq=>⟨by
  obtain x03|Dp|h2|h3:=x.kept q hq;obtain x32|o|es|ep|e|r:=Dp;exact i32 o es ep (k _ _ h2 e) r,(x.kept q hq).2⟩
 low:=x.low
 len:=x.len
 objs:=λn o a e hd ea=>by obtain x02|Do|t:=x.objs n o a e hd ea;obtain x12|ob|p|q:=Do;exact ⟨i12 ob (k _ _ t.1 p) q,t⟩
 inj:=x.inj
 fresh:=x.fresh
 more:=by obtain x13|xs|a|b|c:=x.more;exact i13 xs a (λq hq=>⟨k _ _ (b q hq).2.1 (b q hq).1,(b q hq).2⟩) (x.lams c k)
 gens:=x.gens
 os:=x.os
end
theorem YC(a b:V×Str×Int)(h:XA a b=true):XA b a=false:=by
 unfold XA at*;simp only [Bool.or_eq_true,Bool.and_eq_true,decide_eq_true_eq,Bool.or_eq_false_iff,Bool.and_eq_false_iff,decide_eq_false_iff_not] at*;rcases h with h | ⟨h1,h2⟩
 ·exact ⟨jC _ _ h,.inl λe=>by rw [e] at h;rw [jC _ _ h] at h;cases h⟩
 ·refine ⟨?_,.inr (dG.mpr (eS h2))⟩;rw [h1];cases e:jB b.2.1 b.2.1 with
  | false=>rfl
  | true=>exact aS e (by rw [jC _ _ e];exact aW)
theorem vG(a b:V×Str×Int):XA b a=false ↔ jB a.2.1 b.2.1=true\/(a.2.1=b.2.1/\a.2.2<=b.2.2):=by
 unfold XA;simp only [Bool.or_eq_false_iff,Bool.and_eq_false_iff,decide_eq_false_iff_not];constructor
 ·intro ii;obtain x02|h1|h2:=ii;cases e:jB a.2.1 b.2.1 with
  | true=>exact .inl rfl
  | false=>
   have:=kL _ _ e h1;rcases h2 with h2 | h2
   ·exact aS this.symm h2
   ·exact .inr ⟨this,dG.mp h2⟩
 ·rintro (h | ⟨h1,h2⟩)
  ·exact ⟨jC _ _ h,.inl λe=>by rw [e] at h;rw [jC _ _ h] at h;cases h⟩
  ·refine ⟨?_,.inr (dG.mpr h2)⟩;rw [h1];cases e:jB b.2.1 b.2.1 with
   | false=>rfl
   | true=>exact aS e (by rw [jC _ _ e];exact aW)
theorem AM(a b c:Str)(h1:jB a b=true)(h2:jB b c=true):jB a c=true:=by
 unfold jB at*;simp only [decide_eq_true_eq] at*;exact List.lt_trans h1 h2
theorem SK(a b c:V×Str×Int)(h1:XA b a=false)(h2:XA c b=false):XA c a=false:=by
 rw [vG] at*;rcases h1 with h1 | ⟨h1,h3⟩ <;> rcases h2 with h2 | ⟨h2,h4⟩
 ·exact .inl (AM _ _ _ h1 h2)
 ·exact .inl (by rw [<-h2];exact h1)
 ·exact .inl (by rw [h1];exact h2)
 ·exact .inr ⟨h1.trans h2,bD h3 h4⟩
theorem wG(a b:V×Str×Int)(h1:XA a b=false)(h2:XA b a=false):a.2=b.2:=by
 rw [vG] at h2;unfold XA at h1;simp only [Bool.or_eq_false_iff,Bool.and_eq_false_iff,decide_eq_false_iff_not] at h1;rcases h2 with h2 | ⟨h2,h3⟩
 ·rw [h1.1] at h2;cases h2
 ·rcases h1.2 with h | h
  ·exact aS h2 h
  ·exact Prod.ext h2 (Int.le_antisymm h3 (dG.mp h))
noncomputable def zJ(l:List (V×Str×Int))(i j:Nat):Bool:=match l[i]?,l[j]? with
 | some a,some b=>XA a b
 | _,_=>false
theorem FD{l:List (V×Str×Int)}{a b:Nat}(ha:a < l.length)(hb:b < l.length):zJ l a b=XA l[a] l[b]:=by
 unfold zJ;rw [bK ha,bK hb]
theorem uS{l:List (V×Str×Int)}{i j:Nat}{G:Prop}(h:zJ l i j=true)(k:∀ a b,l[i]? =some a->l[j]? =some b->XA a b=true->G):G:=by
 revert h k
 unfold zJ;refine genI l[i]? ?_;intro o;refine genI l[j]? ?_;intro q h k;cases o with
 | none=>exact aS h aW
 | some a=>
  cases q with
  | none=>exact aS h aW
  | some b=>exact k a b rfl rfl h
theorem RK{l:List (V×Str×Int)}(hd:(l.map (·.2)).Nodup):Ord l.length (zJ l) where
 asym:=λa b ha hb h=>by
  rw [FD hb ha];exact YC _ _ (FD ha hb▸h)
 trans:=λa b d ha hb hd h1 h2=>by
  have h1:XA l[a] l[b]=true:=FD ha hb▸h1;have h2:XA l[b] l[d]=true:=FD hb hd▸h2;rw [FD ha hd]
  revert h1 h2;refine genI l[a] ?_;intro x;refine genI l[b] ?_;intro y;refine genI l[d] ?_;intro z h1 h2
  have e1:=YC _ _ h1;have e2:=YC _ _ h2;cases e:XA x z with
  | true=>rfl
  | false=>
   have:=wG _ _ e (SK _ _ _ e1 e2);rw [show XA y z=XA y x by unfold XA;rw [this]] at h2;rw [e1] at h2;cases h2
 total:=λa b ha hb hab h=>by
  have h:XA l[a] l[b]=false:=FD ha hb▸h;rw [FD hb ha];cases e:XA l[b] l[a] with
  | true=>rfl
  | false=>
   have:=wG _ _ h e;have h1:(l.map (·.2))[a]'(by simpa using ha)=(l.map (·.2))[b]'(by simpa using hb):=by simpa using this
   exact aS ((List.getElem_inj hd).mp h1) hab
set_option tactic.hygienic true in
theorem zM{l:List (V×Str×Int)}(hd:(l.map (·.2)).Nodup)(hn:1<=l.length)(d:V×Str×Int):((runT (zJ l) (kas_sort l.length)).toList.map λi=>l.getD i d)=SA XA l:=by
 obtain x02|Dn|u:=uR (RK hd) hn;obtain ⟨h1,h2⟩:=Dn
 revert u h1 h2;refine genI (runT (zJ l) (kas_sort l.length)) ?_;intro p u h1 h2
 have perm:(p.toList.map λi=>l.getD i d).Perm l:=by
  have:=h2.map λi=>l.getD i d;refine this.trans (List.Perm.of_eq ?_);refine List.ext_getElem (by simp) λi a b=>?_;simp [List.getD_eq_getElem?_getD,b]
 refine List.Perm.eq_of_pairwise (le:=λa b=>XA b a=false) (λa b ha hb x y=>?_) ?_ (NF YC SK l) (perm.trans (iF l).symm)
 ·have e:=wG a b y x;have ma:=perm.mem_iff.mp ha;have mb:=(iF l).mem_iff.mp hb;obtain x11|i|Dy:=List.getElem_of_mem ma;obtain x11|hi|rfl:=Dy;obtain x11|j|Dx:=List.getElem_of_mem mb;obtain x11|hj|rfl:=Dx;have h1:(l.map (·.2))[i]'(by simpa using hi)=(l.map (·.2))[j]'(by simpa using hj):=by simpa using e
  have:=(List.getElem_inj hd).mp h1;subst this;rfl
 ·rw [List.pairwise_iff_getElem];intro i j hi hj hij;have hi':i < p.size:=by simpa using hi
  have hj':j < p.size:=by simpa using hj
  have:=u i j hij (gX hj' h1);simp only [List.getElem_map,Array.getElem_toList];unfold PG at this;rw [Array.getD,Array.getD,dif_pos hi',dif_pos hj'] at this;refine uS this λa b e1 e2 h=>?_;have e1:l[p[i]]? =some a:=e1;have e2:l[p[j]]? =some b:=e2;rw [dK,dK,e1,e2];exact YC _ _ h
section
variable {U:Lev} {Y0:List Addr} {s:S} {r:Shared}
def JU(H:Heap)(p:V×Str×Int)(v:Value):Prop:=∃ a d sl n tx ti,v= .ref a/\H.get? a=some ⟨.type "tuple",d,.seq #[.str p.2.1 tx,.int p.2.2 ti] n,sl⟩
inductive TupR(H:Heap):List (V×Str×Int)->List Value->Prop
 | nil:TupR H [] []
 | cons {p l v vs}:JU H p v->TupR H l vs->TupR H (p::l) (v::vs)
theorem xO{p:Str×Int}(e:OH h (.ref n)=some p):∃ y i,h[n]? =some (.tup [.str y,.int i])/\p=(y,i):=by
 obtain x12|o|ho|h2:=bX.mp e
 induction o with
 | tup vs=>
  rcases vs with _ | ⟨a,_ | ⟨b,_ | ⟨c,l⟩⟩⟩ <;> try exact nos h2
  ·obtain x12|y|h3|h4:=bX.mp h2;obtain x12|i|h5|rfl:=bH.mp h4;refine i22 y i ?_ rfl
   induction a <;> first | exact nos h3 | skip
   induction b <;> first | exact nos h5 | skip
   cases h3;cases h5;exact ho
 | _=>exact nos h2
theorem KW(st:StL U Y s r){x:Value}{p:Str×Int}(h:OH s.h v=some p)(hv:VR Y v x):JU r.heap (v,p) x:=by
 induction v with
 | ref n=>
  obtain x12|a|ea|rfl:=hv;obtain x22|y|i|ho|rfl:=xO h;obtain x13|Dv|g|c1|Dw:=st.at ho (ndd rfl) ea;obtain ⟨c,d,dt,sl⟩:=Dv;obtain x22|ys|n1|d1|r1:=Dw;dsimp only at c1 d1;subst c1 d1
  induction ys using lCq with
  | nil=>exact r1.elim
  | cons y1 ys=>induction ys using lCq with
   | nil=>exact r1.2.elim
   | cons y2 ys=>induction ys using lCq with
    | cons _ _=>exact r1.2.2.elim
    | nil=>
     obtain x03|Dt|Du|u_:=r1;obtain x11|t1|rfl:=Dt;obtain x11|t2|rfl:=Du;exact ⟨a,d,sl,n1,t1,t2,rfl,g⟩
 | _=>exact nos h
theorem VQ(st:StL U Y s r){l:List (V×Str×Int)}(h:ZC s.h vs=some l)(hv:VsR Y vs xs):TupR r.heap l xs/\l.map (·.1)=vs:=
 VsR.ind (p:=λvs xs=>∀ l,ZC s.h vs=some l->TupR r.heap l xs/\l.map (·.1)=vs) (λl h=>by cases h;exact ⟨.nil,rfl⟩) (λv vs x xs hv hr ih l h=>by
  have h:(match OH s.h v,ZC s.h vs with | some p,some l=>some ((v,p)::l) | _,_=>none)=some l:=h;cases h1:OH s.h v with
  | none=>rw [h1] at h;exact nos h
  | some p=>cases h2:ZC s.h vs with
   | none=>rw [h1,h2] at h;exact nos h
   | some l'=>
    rw [h1,h2] at h;cases h;obtain x02|a1|a2:=ih _ h2;exact ⟨.cons (KW st h1 hv) a1,aU (v:: ·) a2⟩) hv l h
theorem TupR.get{H:Heap}{l:List (V×Str×Int)}{vs:List Value}(h:TupR H l vs):∀ {i:Nat} (d0:Value),i < l.length->∃ p,l[i]? =some p/\JU H p (vs.getD i d0):=by
 induction h with
 | nil=>exact λZ hi=>aS hi (fH _)
 | cons h1 _ ih=>
  intro i d0 hi
  induction i using nCq with
  | zero=>exact i12 _ rfl h1
  | succ i=>exact ih d0 (fP hi)
theorem TupR.length{H:Heap}{l:List (V×Str×Int)}{vs:List Value}(h:TupR H l vs):l.length=vs.length:=by
 induction h with
 | nil=>rfl
 | cons _ _ ih=>exact aU (· +1) ih
theorem TupR.keeps{H H':Heap}{C:Addr}(hC:∀ ob,H.get? C=some ob->∀ xs n,ob.data≠ .seq xs n)(k:∀ b o,b≠C->H.get? b=some o->H'.get? b=some o){l:List (V×Str×Int)}{vs:List Value}(h:TupR H l vs):TupR H' l vs:=by
 induction h with
 | nil=>exact .nil
 | cons h1 _ ih=>
  obtain x51|a|d|sl|n|tx|Ds:=h1;obtain x12|ti|e|g:=Ds;exact .cons ⟨a,d,sl,n,tx,ti,e,k _ _ (λz=>hC _ (z▸g) _ _ rfl) g⟩ ih
theorem TupR.tups{H:Heap}{l:List (V×Str×Int)}{vs:List Value}(h:TupR H l vs):∃ fs,KatTups H vs fs/\fs.length=l.length/\∀ v∈fs,∃ x t,v=Value.str x t:=by
 induction h with
 | nil=>exact i13 [] trivial rfl λZ h=>aS h cR
 | cons h1 _ ih=>
  obtain x51|a|d|sl|n|tx|Dr:=h1;obtain x12|ti|e|g:=Dr;obtain x13|fs|h1|h2|h3:=ih;subst e;exact i13 (_::fs) (KatTups.cons g rfl rfl rfl h1) (aU (· +1) h2) λv hv=>by rcases aZ.mp hv with rfl | hv;exact i21 _ _ rfl;exact h3 v hv
theorem yV{s:Shared}{b:Addr}{oa ob:Obj}{na nb:Nat}{y:Str}{i j:Int}{tx ty ti tj:Tok}{Q:Bool->Shared->Prop}(p q:V)
  (ga:s.heap.get? a=some oa) (da:oa.data= .seq #[.str x tx,.int i ti] na) (gb:s.heap.get? b=some ob) (db:ob.data= .seq #[.str y ty,.int j tj] nb) (h:Q (XA (p,x,i) (q,y,j)) s):
  wpAny (model prog w) A (keyLt' (tuples' true) (.ref a) (.ref b)) Q E s:=by
 refine kat_lt ga da gb db ?_;show KatLex prog w A true false Q [(.str x tx,.str y ty),(.int i ti,.int j tj)] 0 s;refine kat_cons (wpAny_eqBool_str (kat_go (λe=>?_) λe=>?_))
 ·refine kat_yes (kat_cons (wpAny_eqBool_int (kat_go (λe2=>?_) λe2=>?_)))
  ·refine kat_yes (kat_nil ?_);have e1:x=y:=by simpa using e
   have e2:i=j:=by simpa using e2
   subst e1 e2;have:XA (p,x,i) (q,x,i)=false:=by
    rw [vG];exact .inr ⟨rfl,eK _⟩
   rw [this] at h;exact h
  ·refine kat_no (kat_one _ _ (PyProof.Rows.lt_int ?_));have e1:x=y:=by simpa using e
   subst e1;have e0:jB x x=false:=by
    cases e:jB x x with
    | false=>rfl
    | true=>exact aS e (by rw [jC _ _ e];exact aW)
   have:XA (p,x,i) (q,x,j)=decide (i < j):=by unfold XA;simp [e0]
   rw [this] at h;exact h
 ·refine kat_no (oneLt_str ?_);have e1:¬ x=y:=by simpa using e
  have:XA (p,x,i) (q,y,j)=decide (x.cps.toList < y.cps.toList):=by unfold XA jB;simp [e1]
  rw [this] at h;exact h
theorem St.notTup{G:Ground}{C:Addr}{kp:Kept}(x:St G C kp Y s r):∀ ob,r.heap.get? C=some ob->∀ xs n,ob.data≠ .seq xs n:=by
 obtain x12|m|Dq|u_:=x.ns;obtain x33|o|es|ep|e|d|u_:=Dq;intro ob h xs n hd;rw [e] at h;cases h;rw [d] at hd;cases hd
theorem LJ{s:Shared}{vs:List Value}{P:PySem.Fin->Shared->Prop}(ho:s.heap.get? a=some (seqObj "list" vs.toArray n))(h2:vs.length < 2)
  (h:P (.done (.ret .none)) {s with heap:=sortedHeap s.heap a vs vs.toArray}):wpAny (model prog w) A (Builtin.«list.sort» ⟨[.ref a],[]⟩) P E s:=by
 rw [list_sort_plain];have ha:a < s.heap.objs.size:=cP ho;have hz:vs.toArray.size<=sizeLine:=by rw [bU];exact aE (cC h2) (by decide+kernel)
 refine aA (listItems_at ho rfl ?_);refine aA (listUpdate_at ho rfl ?_ hz (dA _));obtain ⟨e1,ho1⟩:∃ e1,(s.heap.update a (Obj.mapSeq λZ=>#[])).get? a=some (seqObj "list" #[] e1):=⟨_,get?_update_seq ho (λZ=>#[])⟩;refine aA (seqEpoch_at ho1 rfl ?_);refine aA (wpAny_newTuple ?_ (by simpa using hz));refine aA (gV ?_);refine bT ?_;have ho6:(((s.heap.update a (Obj.mapSeq λZ=>#[])).push (seqObj "tuple" vs.toArray 0)).push (seqObj "list" #[] 0)).get? a=some (seqObj "list" #[] e1):=by
  rw [Heap.get?_push_ne _ _ _ (by rw [size_push',Heap.size_update];exact bG (bW ha)),Heap.get?_push_ne _ _ _ (by rw [Heap.size_update];exact bG ha)];exact ho1
 show wpAny (model prog w) A _ P E {s with heap:=((s.heap.update a (Obj.mapSeq λZ=>#[])).push (seqObj "tuple" vs.toArray 0)).push (seqObj "list" #[] 0)};dsimp only;have h2':vs.toArray.size < 2:=by rw [bU];exact h2
 rw [aN h2',aN h2'];refine aA (aG ?_);rw [StateT.run_pure];refine aA (aG ?_);dsimp only;refine aA (seqEpoch_at ho6 rfl ?_);have ez:(arrOf (SortSt.mk' general' (vs.toArray.zip vs.toArray) #[] 7 none)).map (·.2)=vs.toArray:=by
  show (vs.toArray.zip vs.toArray).map (·.2)=vs.toArray;apply Array.toList_inj.mp;simp [List.map_snd_zip]
 rw [ez];refine aA (listUpdate_at ho6 rfl ?_ (dA _) (cM hz));simp only [bne_self_eq_false,Bool.false_eq_true,if_false];exact aG h
theorem JO{s:Shared}{l:Addr}{vs:List Value}{Q:Value->Shared->Prop}(hl:s.heap.IsList l vs.toArray)(h2:vs.length < 2)
  (h:Q (.ref (s.heap.objs.size+1)) {s with heap:=sortedAll s.heap vs vs.toArray}):wpAny (model prog w) A (call (.builtin "sorted") [.ref l]) Q E s:=by
 refine Calls.call_function_entry kind_sorted plain_sorted entry_sorted (args_sorted1 _) ?_;unfold Builtin.«sorted»;have hz:vs.length<=sizeLine:=aE (cC h2) (by decide+kernel);refine aA (m:=checkCount "sorted" 1 1 _) (aG ?_);refine aA (collect_list hl ?_ hz);refine aA (gV ?_ hz);have Af:((s.heap.push (seqObj "list" #[] 0)).update s.heap.objs.size (Obj.mapSeq (· ++vs.toArray))).objs.size=s.heap.objs.size+1:=by
  rw [Heap.size_update,size_push']
 have Cm:(((s.heap.push (seqObj "list" #[] 0)).update s.heap.objs.size (Obj.mapSeq (· ++vs.toArray))).push (seqObj "list" vs.toArray 0)).get? (s.heap.objs.size+1)=some (seqObj "list" vs.toArray 0):=by
  rw [<-Af];exact bC _ rfl
 show wpAny _ _ _ _ _ {s with heap:=((s.heap.push (seqObj "list" #[] 0)).update s.heap.objs.size (Obj.mapSeq (· ++vs.toArray))).push (seqObj "list" vs.toArray 0)};rw [Af];refine aA (bT (dQ slot_list_sort (i12 _ Cm rfl) entry_list_sort (LJ Cm h2 (i12 _ rfl ?_)) (args_list_sort _)));exact aG (i12 _ rfl h)
theorem KO{s:Shared}{l:Addr}{vs:List Value}{Q:Value->Shared->Prop}(hl:s.heap.IsList l vs.toArray)(hz:vs.length < 64)
  (h:∀ H:Heap,(∀ b o,s.heap.get? b=some o->H.get? b=some o)->H.get? (s.heap.objs.size+1)=some (seqObj "list" vs.toArray 0)->
   wpAny (model prog w) A.in1.in1 (Builtin.«list.sort» ⟨[.ref (s.heap.objs.size+1)],[]⟩) (λfin s'=>fin= .done (.ret .none)/\Q (.ref (s.heap.objs.size+1)) s') (λZ Z=>False) {s with heap:=H}):wpAny (model prog w) A (call (.builtin "sorted") [.ref l]) Q E s:=by
 refine Calls.call_function_entry kind_sorted plain_sorted entry_sorted (args_sorted1 _) ?_;unfold Builtin.«sorted»;refine aA (m:=checkCount "sorted" 1 1 _) (aG ?_);refine aA (collect_list hl ?_ (aE (cC hz) (by decide)));refine aA (gV ?_ (aE (cC hz) (by decide)));have Af:((s.heap.push (seqObj "list" #[] 0)).update s.heap.objs.size (Obj.mapSeq (· ++vs.toArray))).objs.size=s.heap.objs.size+1:=by
  rw [Heap.size_update,size_push']
 have Cm:(((s.heap.push (seqObj "list" #[] 0)).update s.heap.objs.size (Obj.mapSeq (· ++vs.toArray))).push (seqObj "list" vs.toArray 0)).get? (s.heap.objs.size+1)=some (seqObj "list" vs.toArray 0):=by
  rw [<-Af];exact bC _ rfl
 have keep:∀ b o,s.heap.get? b=some o->(((s.heap.push (seqObj "list" #[] 0)).update s.heap.objs.size (Obj.mapSeq (· ++vs.toArray))).push (seqObj "list" vs.toArray 0)).get? b=some o:=λb o q=>by
  have hlt:b < s.heap.objs.size:=cP q;rw [Heap.get?_push_ne _ _ _ (by rw [Af];exact bG (bW hlt)),gK _ _ _ _ (bG hlt),Heap.get?_push_ne _ _ _ (bG hlt)];exact q
 show wpAny _ _ _ _ _ {s with heap:=((s.heap.push (seqObj "list" #[] 0)).update s.heap.objs.size (Obj.mapSeq (· ++vs.toArray))).push (seqObj "list" vs.toArray 0)};rw [Af];refine aA (bT (dQ slot_list_sort (i12 _ Cm rfl) entry_list_sort (fG (h _ keep Cm) (λfin s' x=>?_) λZ Z e=>e.elim) (args_list_sort _)));obtain x02|rfl|hq:=x;exact i12 _ rfl (aG (i12 _ rfl hq))
theorem AN{h:Heap}{C D:Addr}:∀ p∈(XK h C).filter (λp=>p.1 !=D),p.1≠D:=λp hp=>by simpa using (cN.mp hp).2
theorem VsR.getD(h:VsR Y vs xs):∀ {i:Nat},i < vs.length->VR Y (vs.getD i .none) (xs.getD i .none):=by
 intro i hi;obtain x12|y|h1|h2:=h.get (bK hi);rw [dK,dK,h1,bK hi];exact h2
theorem VsR.ofMap{f:Nat->V}{g:Nat->Value}:∀ {l:List Nat},(∀ i∈l,VR Y (f i) (g i))->VsR Y (l.map f) (l.map g):=by
 intro l
 induction l with
 | nil=>intro _;exact trivial
 | cons i l ih=>intro h;exact ⟨h i (.head _),ih λj hj=>h j (.tail _ hj)⟩
theorem xR{l:List (V×Str×Int)}{ax:Addr}(st:StL U Y s r)(hp:ZC s.h vs=some l)(hd:jE l=true)(hz:vs.length < 64)
  (g:r.heap.get? ax=some {cls:= .type "list",data:= .seq (List.toArray xs) k}) (r1:VsR Y vs xs):
  At U Y s r VR (FX (.list ((SA XA l).map (·.1))) >>=λn=>Pure.pure (V.ref n)) (call (.builtin "sorted") [.ref ax]):=by
 have hd:=aX hd;obtain x02|T|hv:=VQ st hp r1;have hlen:=T.length;have hl2:l.length=vs.length:=by rw [<-hv,aO]
 by_cases h2:xs.length < 2
 ·refine At.newList st _ λQ E kk=>?_;have hD:r.heap.get? (r.heap.objs.size+1)=none:=NH _ (cE _);have h0:r.heap.objs.size+1≠sysModules:=aV (bW st.big);refine JO (GC g) h2 ?_;obtain x11|e|he:=sortedAll_at r.heap xs xs.toArray;refine kk (r.heap.objs.size+1) _ _ r.toks xs e (λb o e=>sortedAll_old e) hD h0 (by simpa using he) ?_ λhf=>i12 _ hf rfl;have:(SA XA l).map (·.1)=vs:=by
   rw [<-hv];rcases l with _ | ⟨a,_ | ⟨b,l⟩⟩
   ·rfl
   ·rfl
   ·exact aS (hlen▸h2) (cB.mpr (cH 2 _))
  rw [this];exact r1
 ·have hn:1<=l.length:=hlen▸eU (cB.mp h2);obtain x12|m|hm|hloc:=st.ns;refine At.done (a:= .ref s.h.length) (s':={s with h:=s.h++ [.list ((SA XA l).map (·.1))]}) rfl λQ E kk=>?_;refine KO (GC g) (by rw [<-hlen,hl2];exact hz) λH keep Cm=>?_;have hD0:r.heap.get? (r.heap.objs.size+1)=none:=NH _ (cE _);have h0:r.heap.objs.size+1≠sysModules:=aV (bW st.big)
  revert Cm hD0 h0;refine genE (r.heap.objs.size+1) ?_;intro D hDe Cm hD0 h0
  have hm':H.Ns U.env.locals m:=hm.keeps keep;have hDC:D≠U.env.locals:=λe=>by
   obtain x11|o|e':=st.ns_some;rw [<-e,hD0] at e';cases e'
  obtain x04|F0|N0|back|u_:=uQ hm';have hCD:U.env.locals < D:=by
   obtain x11|o|e':=st.ns_some;have:=cP e';rw [<-hDe];exact bW this
  have hc0:(cutH H U.env.locals).get? D=none:=by rw [xE,aJ (cB.mpr (cC hCD))]
  have N1:News (cutH H U.env.locals) U.env.locals H ((XK H U.env.locals).filter λp=>p.1 !=D):=λp hp=>N0 p (cN.mp hp).1;have back':∀ h',Fr (cutH H U.env.locals) U.env.locals h' m->News (cutH H U.env.locals) U.env.locals h' ((XK H U.env.locals).filter λp=>p.1 !=D)->h'.Ns U.env.locals m/\∀ b o,b≠U.env.locals->r.heap.get? b=some o->h'.get? b=some o:=by
   intro h' F' N';refine ⟨F'.ns,λb o hb e=>?_⟩;have e1:=keep b o e;have hbD:b≠D:=λz=>by rw [z,hD0] at e;cases e
   rcases Nat.lt_or_gt_of_ne hb with hlt | hgt
   ·exact F'.keep b o (by rw [xE,aN hlt];exact e1)
   ·exact (N' (b,o) (cN.mpr ⟨mem_restH.mpr ⟨hgt,e1⟩,by simpa using hbD⟩)).1
  refine kat_list_sort F0 N1 Cm hDC hc0 AN (cB.mp h2) (by rw [<-hlen,hl2];exact hz) λe1 h' F' N'=>?_;obtain x02|Be'|hk':=back' h' F' (λp hp=>N' p (.tail _ hp));have T':TupR h' l xs:=T.keeps st.notTup hk';obtain x13|fs|k1|k2|k3:=T'.tups;refine kat_kind (T:= .type "str") k1 (k2.symm▸hn) (λv hv=>by obtain x21|x|t|rfl:=k3 v hv;exact Looks.of_pure rfl) (by decide) ?_;have hb:((Value.type "str" !=Value.type "tuple"):Bool)=true:=by decide
  rw [hb];refine AskOk.run (n:=xs.length) (c:=zJ l) (λi j C hi hj hC=>?_) (mS (aE (by decide:1<=2) (cB.mp h2))) ?_
  ·obtain x12|p|q1|Dp:=T'.get (i:=i) Value.none (gX hi hlen.symm);obtain x51|a|d|sl|n|tx|Ds:=Dp;obtain x12|ti|q2|q3:=Ds;obtain x12|p'|q1'|Do:=T'.get (i:=j) Value.none (gX hj hlen.symm);obtain x51|a'|d'|sl'|n'|tx'|Dr:=Do;obtain x12|ti'|q2'|q3':=Dr;unfold kas_ask;rw [q2,q2'];refine yV p.1 p'.1 q3 rfl q3' rfl ?_;unfold zJ at hC;rw [q1,q1'] at hC;exact hC
  ·refine KasFin.intro F' N' (.head AN) λh'' c F'' N''=>⟨rfl,?_⟩;have hD'':=N'' (D,listOf _ c) (.head _);obtain x02|Be''|hk'':=back' h'' F'' (λp hp=>N'' p (.tail _ hp));have sn:StL U Y s {r with heap:=h'',toks:=r.toks}:=st.keepsNs hm Be'' hk'';refine kk (Y++ [D]) _ _ (Ext.one _ _) (st.allocOf (tk:=r.toks) sn hk'' hD0 hD''.1 ⟨i03 rfl rfl rfl,_,c,rfl,VsR.mono (Ext.one _ _) ?_⟩ h0) (i12 D (by rw [<-st.len];simp) rfl);rw [<-zM hd hn (.none,⟨#[]⟩,0),aP,<-hlen];refine VsR.ofMap λi hi=>?_;obtain x02|Dn|u_:=uR (RK hd) hn;obtain ⟨p1,p2⟩:=Dn;have hil:i < l.length:=by
    have:=p2.mem_iff.mp hi;simpa using this
   have:=r1.getD (i:=i) (gX hil hl2);rw [<-hv] at this;simp only [Function.comp,List.getD_eq_getElem?_getD,List.getElem?_map,List.getElem?_eq_getElem hil,Option.map_some,Option.getD_some] at this ⊢;exact this
end
end
section
open PyProof.Rows.LSm
theorem BL:typeLookup (.type "bytes") "__bytes__"=pure (some (.builtin "bytes.__bytes__")):=by rw [typeLookup_type,builtinLookup_eq_fast];kernel_rfl
section
variable {s:Shared}
theorem sK{t:Tok}{Q:Value->Shared->Prop}(hQ:Q (.bytes b t) s):codeAny (model prog w) A (.call (.builtin "bytes.__new__") ⟨[.type "bytes",.bytes b t],[]⟩) (wants Q E) s:=by
 refine codeAny_of_tree ?_;show wpAny _ A.in1 (do checkBuiltinCall "bytes.__new__" ⟨[.type "bytes",.bytes b t],[]⟩;again (.builtin "bytes.__new__" ⟨[.type "bytes",.bytes b t],[]⟩)) _ _ s;refine aA (eN (F.bm_newCall _) (aG ⟨plainId_quiet F.bm_plain _,codeAny_builtin F.bm_entry ?_⟩));rw [Around.under_plainId F.bm_plain _];have hT:s.TypeIs (.bytes b t) "bytes":=typeIs_bytes _ _ _;unfold Builtin.«bytes.__new__»;refine aA (eN (a:=true) rfl ?_);refine bm_if_false rfl ?_;refine aA (eN F.bm_sub ?_);refine bm_if_false rfl ?_;refine aA (eN (F.bm_bind _) ?_);refine aA (eN (a:=()) rfl ?_);refine aA (eN (a:=()) rfl ?_);refine bm_if_false rfl ?_;refine aA (dW hT BL ?_);refine aA (wpAny_rule ?_);refine aA (wpAny_typeOf hT ?_);refine bm_if_true (by decide) ?_;show wpAny _ _ (if (Value.type "bytes"==Value.type "bytes")=true then _ else _) _ _ _;refine bm_if_true (by decide) ?_;first
  | exact aG hQ
  | exact aA (aG (aG hQ))
theorem NG{t:Tok}{Q:Value->Shared->Prop}(hQ:Q (.bytes b t) s):wpAny (model prog w) A (call (.type "bytes") [.bytes b t]) Q E s:=by
 refine callType_codes (Q₁:=λobj s₁=>s₁.TypeIs obj "bytes"/\Q obj s₁) F.bm_called (F.bm_typeCall _) F.entry_object_init
  (sK ⟨PySem.W.typeIs_bytes _ _ _,hQ⟩) λobj s₁ h₁=>?_
 exact i03 h₁.1 (F.args_object_init_2 obj _) (object_init_meets F.bm_called.init.lookup F.bm_called.made (by decide) prog w A.in1 _ s₁ ⟨h₁.1,rfl,h₁.2⟩)
end
inductive BytesAre:List Value->List (Array UInt8)->Prop
 | nil:BytesAre [] []
 | cons (b:Array UInt8) (t:Tok) {vs bs}:BytesAre vs bs->BytesAre (.bytes b t::vs) (b::bs)
theorem zL{l:List (Array UInt8)}(h:sJ vs=some l)(hr:VsR Y vs xs):BytesAre xs l:=by
 rw [BD (g:=V.bytes) (λv a h=>by induction v <;> first | exact nos h | (cases h;rfl)) h] at hr;clear h
 induction l generalizing xs with
 | nil=>induction xs using lCq with
  | nil=>exact .nil
  | cons _ _=>exact hr.elim
 | cons i l ih=>induction xs using lCq with
  | nil=>exact hr.elim
  | cons x xs=>
   obtain x02|hv|hr:=hr;obtain x11|t|rfl:=hv;exact .cons _ t (ih hr)
theorem BytesAre.length{l:List (Array UInt8)}(h:BytesAre xs l):xs.length=l.length:=by induction h <;> simp_all
theorem BytesAre.at{l:List (Array UInt8)}(h:BytesAre xs l):∀ i,i < l.length->∃ b t,xs[i]? =some (.bytes b t)/\l[i]? =some b:=by
 induction h with
 | nil=>intro i hi;exact aS hi (fH _)
 | cons b t _ ih=>
  intro i hi
  induction i using nCq with
  | zero=>exact i22 b t rfl rfl
  | succ i=>simpa using ih i (by simpa using hi)
theorem DC:typeLookup (.type "bytes") "__buffer__"=pure (some (.builtin "bytes.__buffer__")):=by rw [typeLookup_type,builtinLookup_eq_fast];kernel_rfl
theorem tJ:typeLookup (.type "bytes") "__release_buffer__"=pure none:=by rw [typeLookup_type,builtinLookup_eq_fast];kernel_rfl
section
variable {s:Shared}
theorem rE{t:Tok}{Q:Bool->Shared->Prop}(h:Q true s):wpAny (model prog w) A (Builtin.Bytes.slotIsOwn (.bytes b t) "__buffer__") Q E s:=by
 unfold Builtin.Bytes.slotIsOwn;refine aA (dW (typeIs_bytes _ _ _) DC ?_);dsimp only;refine bm_if_false (by decide+kernel) ?_;have e:(("bytes.__buffer__" :String).dropRight ("__buffer__".length+1))="bytes":=by decide+kernel
 rw [e];exact wpAny_isInstance (typeIs_bytes _ _ _) F.bm_sub h
theorem tK{id:String}{t:Tok}{full:Bool}{Q:Option (Array UInt8)->Shared->Prop}(h:Q (some b) s):wpAny (model prog w) A (Builtin.Bytes.buffer? id (.bytes b t) full) Q E s:=by
 unfold Builtin.Bytes.buffer?;refine aA (dW (typeIs_bytes _ _ _) DC ?_);dsimp only;refine aA (rE ?_);refine bm_if_false rfl ?_;refine aA (dW (typeIs_bytes _ _ _) DC ?_);refine aA ?_;unfold Builtin.Bytes.ownRelease;refine aA ?_;unfold Builtin.Bytes.slotIsOwn;refine aA (dW (typeIs_bytes _ _ _) tJ ?_);refine aG (aG ?_);refine bm_if_false rfl ?_;exact aA (eN (a:=b) rfl (aG h))
theorem TG{id:String}{t:Tok}{Q:Option (Array UInt8×Option Value)->Shared->Prop}(h:Q (some (b,none)) s):wpAny (model prog w) A (Builtin.Bytes.takeBufferQuiet? id (.bytes b t) 0) Q E s:=by
 unfold Builtin.Bytes.takeBufferQuiet?;refine aA (wpAny_attempt ?_);unfold Builtin.Bytes.takeBuffer?;refine aA (dW (typeIs_bytes _ _ _) DC ?_);dsimp only;refine aA (rE ?_);refine bm_if_false rfl ?_;refine aA (dW (typeIs_bytes _ _ _) DC ?_);refine aA (tK ?_);exact aG (aG h)
theorem HJ{kZ:List (Value×Option Value)}{keep:List Value}{Q:Unit->Shared->Prop}(hn:∀ p∈kZ,p.2=none)(h:Q () s):wpAny (model prog w) A (Builtin.Bytes.joinLetGo kZ keep) Q E s:=by
 induction kZ with
 | nil=>exact aG h
 | cons p r ih=>
  obtain ⟨x,o⟩:=p;have:=hn (x,o) (.head _);dsimp only at this;subst this;show wpAny _ _ (_ >>=λZ=>Builtin.Bytes.joinLetGo r keep) _ _ _;exact aA (wpAny_letGo (ih λp hp=>hn p (.tail _ hp)))
def JoinI(bs:List (Array UInt8))(iY:List Nat)(oZ:Array (Array UInt8))(kZ:List (Value×Option Value)):Prop:=
 ∃ i,iY=List.range' i (bs.length - i)/\i<=bs.length/\oZ=(bs.take i).toArray/\∀ p∈kZ,p.2=none/\p.1.onHeap=false
theorem JoinI.next{items:List Value}{bs:List (Array UInt8)}(hb:BytesAre items bs){x:Nat}{iY:List Nat}{oZ:Array (Array UInt8)}{kZ:List (Value×Option Value)}(h:JoinI bs (x::iY) oZ kZ):
  ∃ bb tt,items.toArray.getD x Value.none= .bytes bb tt/\kZ.any (λx=>x.1.onHeap)=false/\JoinI bs iY (oZ.push bb) (kZ++ [(.bytes bb tt,none)]):=by
 obtain x14|i|hi|Ar|h1|h2:=h;have hlt:i < bs.length:=by
  cases hz:bs.length - i with
  | zero=>rw [hz] at hi;cases hi
  | succ k=>exact Nat.sub_pos_iff_lt.mp (hz▸Nat.succ_pos k)
 have e:bs.length - i=(bs.length - (i+1))+1:=by rw [Nat.sub_add_eq];exact (Nat.sub_add_cancel (Nat.sub_pos_of_lt hlt)).symm
 rw [e,List.range'_succ] at hi;cases hi;obtain x22|bb|tt|e1|e2:=hb.at x hlt;refine i23 bb tt (by simp [Array.getD_eq_getD_getElem?,e1]) ?_ ⟨x+1,rfl,hlt,?_,λp hp=>?_⟩
 ·rw [List.any_eq_false];intro p hp;rw [(h2 p hp).2];exact aW
 ·rw [h1,List.take_add_one,e2];simp
 ·rcases bR.mp hp with hp | hp
  ·exact h2 p hp
  ·rw [aH.mp hp];exact ⟨rfl,rfl⟩
theorem JoinI.stop{bs:List (Array UInt8)}{oZ:Array (Array UInt8)}{kZ:List (Value×Option Value)}(h:JoinI bs [] oZ kZ):oZ=bs.toArray/\∀ p∈kZ,p.2=none:=by
 obtain x14|i|hi|Ar|h1|h2:=h;have hie:i=bs.length:=by
  cases hz:bs.length - i with
  | zero=>exact eV Ar (Nat.le_of_sub_eq_zero hz)
  | succ k=>rw [hz,List.range'_succ] at hi;cases hi
 rw [hie,gJ] at h1;exact ⟨h1,λp hp=>(h2 p hp).1⟩
theorem UW{l:List α}(h:l.toArray.size=n)(h2:2<=n):∃ v1 v2 r,l=v1::v2::r:=by
 match l,h with
 | [],e=>subst e;exact aS h2 (dY 1)
 | [_],e=>subst e;exact aS h2 (gC 1)
 | a::b::r,_=>exact i31 a b r rfl
theorem oS{l:Addr}{items:List Value}{bs:List (Array UInt8)}{t:Tok}{Q:Value->Shared->Prop}(g:s.heap.get? l=some {cls:= .type "list",data:= .seq (List.toArray items) n})(hb:BytesAre items bs)(h2:2<=bs.length)
  (hz:Builtin.Bytes.tooLong (bs.toArray.foldl (· + ·.size) (b.size*(bs.toArray.size - 1)))=false) (Bx:(Builtin.Bytes.joined b bs).size<=sizeLine) (h:Q (.bytes (Builtin.Bytes.joined b bs) s.toks) {s with toks:=s.toks+1}):
  wpAny (model prog w) A (call (.builtin "bytes.join") [.bytes b t,.ref l]) Q E s:=by
 refine dQ sE (typeIs_bytes _ _ _) OG ?_ (YF _ _);unfold Builtin.«bytes.join» Builtin.Bytes.joinM;refine aA (eN (a:=(Value.bytes b t,Value.ref l)) rfl ?_);dsimp only;refine bm_if_true (by decide) ?_;refine aA ?_;unfold Builtin.Bytes.joinItems;refine aA (wpAny_typeOf (T:="list") (i12 _ g rfl) ?_);refine bm_if_true (by decide) ?_;refine aG ?_;refine aA (wpAny_seqItems g rfl ?_);dsimp only;refine bm_if_true (by decide) ?_;have Af:items.toArray.size=bs.length:=by rw [bU,hb.length]
 obtain x31|v1|v2|r|e:=UW Af h2;subst e;show wpAny _ _ (forIn [:(⟨v1::v2::r⟩:Array Value).size] (#[],[]) _ >>=_) _ _ _
 revert hb g Af;refine genI (v1::v2::r) ?_;intro items g hb Af
 refine aA ?_;rw [Std.Legacy.Range.forIn_eq_forIn_range'];have hr:(Std.Legacy.Range.size [:(⟨items⟩:Array Value).size])=bs.length:=by simp [Std.Legacy.Range.size];exact Af
 rw [hr];refine wpAny_forIn_list _ (λiY st s'=>s'=s/\JoinI bs iY st.1 st.2) _ (λx iY st s' hI=>?_) (λst s' hI=>?_) _ _ ⟨rfl,0,rfl,dA _,rfl,λZ h=>aS h cR⟩
 ·obtain ⟨oZ,kZ⟩:=st;obtain x02|rfl|Do:=(show s'=s/\_ from ⟨hI.1,hI.2.next hb⟩);obtain x23|bb|tt|rZ|hoff|hJ:=Do;refine aA (wpAny_seqItems g rfl ?_);dsimp only;rw [rZ];refine bm_if_false (by rw [hoff];rfl) ?_;refine aA (bT (TG ?_));dsimp only;refine aA (wpAny_seqItems g rfl ?_);dsimp only;refine bm_if_false (by simp) ?_;exact aG ⟨rfl,hJ⟩
 ·obtain ⟨oZ,kZ⟩:=st;obtain x03|rfl|rfl|h2:=(show s'=s/\_ from ⟨hI.1,hI.2.stop⟩);refine aA (eN (a:=b) rfl ?_);refine bm_if_false hz ?_;refine aA (wpAny_mkBytes ?_ Bx);refine aA (bT (wpAny_point ?_));refine aA (HJ h2 ?_);exact aG (i12 _ rfl h)
end
section
variable {U:Lev} {Y0:List Addr} {s:S} {r:Shared}
theorem At.getS{β:Type}{R:List Addr->α->β->Prop}{f:S->M α}{t:Sem β}(h:At U Y s r R (f s) t):At U Y s r R (Internal.getS >>=f) t:=⟨h.go⟩
theorem VsR.one(h:VsR Y [v] xs):∃ x,xs= [x]/\VR Y v x:=by
 induction xs using lCq with
 | nil=>exact h.elim
 | cons x xs=>induction xs using lCq with
  | nil=>exact i12 x rfl h.1
  | cons _ _=>exact h.2.elim
theorem VsR.two{u:V}(h:VsR Y [u,v] xs):∃ x y,xs= [x,y]/\VR Y u x/\VR Y v y:=by
 induction xs using lCq with
 | nil=>exact h.elim
 | cons x xs=>obtain x12|y|rfl|hy:=VsR.one h.2;exact i23 x y rfl h.1 hy
theorem VsR.three{u w:V}(h:VsR Y [u,v,w] xs):∃ x y z,xs= [x,y,z]/\VR Y u x/\VR Y v y/\VR Y w z:=by
 induction xs using lCq with
 | nil=>exact h.elim
 | cons x xs=>obtain x23|y|z|rfl|hy|hz:=VsR.two h.2;exact i34 x y z rfl h.1 hy hz
theorem vT(hh:U.A.handled=none){x:Value}(ha:VR Y0 (.ref n) x):Sim U Y0 VR (lB "sorted" [.ref n]) (call (.builtin "sorted") [x]):=by
 refine Sim.of_at λY s r ex st=>?_;obtain x12|ax|Ah|rfl:=ha.mono ex;show At U Y s r VR (CX n >>=λo=>_) _;refine At.geto λo ho=>?_
 induction o with
 | list vs=>
  obtain x22|xs|k|g|r1:=st.lst ho Ah;refine At.need λhz=>?_;have hz:=aX hz;cases hv:xD vs with
  | some us=>exact wR st hv hz g r1
  | none=>exact At.getS (At.opt λl hp=>At.need λhd=>xR st hp hd hz g r1)
 | dict es ep=>
  refine At.need λhz=>?_;exact At.opt λus hv=>vR hh st ho Ah hv (aX hz)
 | _=>exact At.fail
theorem ZU{a:V}{u y:Value}(hu:VR Y0 (.bytes b) u)(ha:VR Y0 a y):Sim U Y0 VR (lB "bytes.join" [.bytes b,a]) (call (.builtin "bytes.join") [u,y]):=by
 refine Sim.of_at λY s r ex st=>?_;obtain x11|t|rfl:=hu;show At U Y s r VR (IX a >>=λvs=>DX (sJ vs) >>=λl=>BX (decide _) >>=λZ=>Pure.pure (.bytes (Builtin.Bytes.joined b l))) _;refine At.listAt st (ha.mono ex) λn vs ax xs k e1 h1 e2 Ah g r1=>?_;subst e2;refine At.opt λl hl=>At.need λhn=>At.pure st λQ E kk=>?_;obtain x03|hn1|hn2|hn3:=aX hn;have fold:∀ (l:List (Array UInt8)) (a:Nat),l.foldl (· + ·.size) a=a+(l.map (·.size)).sum:=by
  intro l
  induction l with
  | nil=>intro a;exact (Nat.add_zero _)
  | cons x l ih=>intro a;rw [List.foldl_cons,ih,bJ,gA,fL]
 have Af:(Builtin.Bytes.joined b l).size=(l.map (·.size)).sum:=by
  unfold Builtin.Bytes.joined;have:∀ (l:List (Array UInt8)) (k:Nat) (out:Array UInt8),((l.zipIdx k).foldl (λout (x:Array UInt8×Nat)=>(if x.2 > 0 then out++b else out)++x.1) out).size=out.size+(l.map (·.size)).sum:=by
   intro l
   induction l with
   | nil=>intro k out;exact bU ..
   | cons x l ih=>
    intro k out;rw [List.zipIdx_cons,List.foldl_cons,ih];simp only [List.map_cons,List.sum_cons];split <;> simp [hn2,Nat.add_assoc]
  have:=this l 0 #[];simpa using this
 have big:=FA;refine oS g (zL hl r1) hn1 ?_ ?_ (kk _ _ ⟨_,rfl⟩)
 ·unfold Builtin.Bytes.tooLong;simp only [List.foldl_toArray,decide_eq_false_iff_not];rw [fold];rw [hn2,Nat.zero_mul,cW];exact cB.mpr (aE hn3 big)
 ·rw [Af];exact aE hn3 big
theorem S1{f:V->M V}{c:Value}{args:List V}(ha:VsR Y0 args xs)(h:∀ u x,VR Y0 u x->Sim U Y0 VR (f u) (call c [x])):Sim U Y0 VR (on1 args f) (call c xs):=by
 rcases args with _ | ⟨u,_ | ⟨_,_⟩⟩
 ·exact Sim.fail
 ·obtain x12|x|rfl|k:=ha.one;exact h _ _ k
 ·exact Sim.fail
theorem S2{f:V->V->M V}{c:Value}{args:List V}(ha:VsR Y0 args xs)(h:∀ u v x y,VR Y0 u x->VR Y0 v y->Sim U Y0 VR (f u v) (call c [x,y])):Sim U Y0 VR (on2 args f) (call c xs):=by
 rcases args with _ | ⟨u,_ | ⟨v,_ | ⟨_,_⟩⟩⟩
 ·exact Sim.fail
 ·exact Sim.fail
 ·obtain x23|x|y|rfl|k1|k2:=ha.two;exact h _ _ _ _ k1 k2
 ·exact Sim.fail
theorem S3{f:V->V->V->M V}{c:Value}{args:List V}(ha:VsR Y0 args xs)(h:∀ u v w x y z,VR Y0 u x->VR Y0 v y->VR Y0 w z->Sim U Y0 VR (f u v w) (call c [x,y,z])):Sim U Y0 VR (on3 args f) (call c xs):=by
 rcases args with _ | ⟨u,_ | ⟨v,_ | ⟨w,_ | ⟨_,_⟩⟩⟩⟩
 ·exact Sim.fail
 ·exact Sim.fail
 ·exact Sim.fail
 ·obtain x33|x|y|z|rfl|k1|Dn:=ha.three;obtain x02|k2|k3:=Dn;exact h _ _ _ _ _ _ k1 k2 k3
 ·exact Sim.fail
theorem SR{f:Nat->M V}{g:Sem Value}(h:∀ a,v= .ref a->Sim U Y0 VR (f a) g):Sim U Y0 VR (onR v f) g:=by
 induction v <;> first | exact Sim.fail | exact h _ rfl
theorem SI{f:Int->M V}{g:Sem Value}(h:∀ a,v= .int a->Sim U Y0 VR (f a) g):Sim U Y0 VR (onI v f) g:=by
 induction v <;> first | exact Sim.fail | exact h _ rfl
theorem SS{f:Str->M V}{g:Sem Value}(h:∀ a,v= .str a->Sim U Y0 VR (f a) g):Sim U Y0 VR (onS v f) g:=by
 induction v <;> first | exact Sim.fail | exact h _ rfl
theorem SB{f:Array UInt8->M V}{g:Sem Value}(h:∀ a,v= .bytes a->Sim U Y0 VR (f a) g):Sim U Y0 VR (onB v f) g:=by
 induction v <;> first | exact Sim.fail | exact h _ rfl
theorem S0{m:M V}{g:Sem Value}(h:v= .int 0->Sim U Y0 VR m g):Sim U Y0 VR (on0 v m) g:=
 SI λa e=>Sim.ite (λz=>h (e.trans (aU V.int z))) λZ=>Sim.fail
theorem Sim.els{c:Prop} [Decidable c]{m m':M V}{g:Sem Value}(h:c->Sim U Y0 VR m g)(h':Sim U Y0 VR m' g):Sim U Y0 VR (if c then m else m') g:=Sim.ite h λZ=>h'
theorem rS(hh:U.A.handled=none){id:String}{args:List V}(ha:VsR Y0 args xs):Sim U Y0 VR (lB id args) (call (.builtin id) xs):=by
 unfold lB;refine Sim.els (λz=>?_) ?_
 ·subst z;exact S1 ha λZ Z h=>tX h
 refine Sim.els (λz=>?_) ?_
 ·subst z;exact S1 ha λZ Z h=>yX hh h
 refine Sim.els (λz=>?_) ?_
 ·subst z;exact S2 ha λZ Z Z Z h1 h2=>SI λZ e1=>SI λZ e2=>by subst e1 e2;exact uX hh h1 h2
 refine Sim.els (λz=>?_) ?_
 ·subst z;exact S1 ha λZ Z h=>VW hh h
 refine Sim.els (λz=>?_) ?_
 ·subst z;exact S1 ha λZ Z h=>SR λZ e=>by subst e;exact vT hh h
 refine Sim.els (λz=>?_) ?_
 ·subst z;exact S2 ha λZ Z Z Z h1 h2=>SR λZ e=>by subst e;exact oX h1 h2
 refine Sim.els (λz=>?_) ?_
 ·subst z;exact S2 ha λZ Z Z Z h1 h2=>SR λZ e=>by subst e;exact tW h1 h2
 refine Sim.els (λz=>?_) ?_
 ·subst z;exact S2 ha λZ Z Z Z h1 h2=>SR λZ e=>by subst e;exact NM h1 h2
 refine Sim.els (λz=>?_) ?_
 ·subst z;exact S3 ha λZ Z Z Z Z Z h1 h2 h3=>SR λZ e=>S0 λe0=>by subst e e0;exact KS h1 h2 h3
 refine Sim.els (λz=>?_) ?_
 ·subst z;exact S2 ha λZ Z Z Z h1 h2=>SR λZ e=>S0 λe0=>by subst e e0;exact vX h1 h2
 refine Sim.els (λz=>?_) ?_
 ·subst z;exact S2 ha λZ Z Z Z h1 h2=>SS λZ e=>by subst e;exact CV h1 h2
 refine Sim.els (λz=>?_) ?_
 ·subst z;exact S2 ha λZ Z Z Z h1 h2=>SS λZ e1=>SS λZ e2=>by subst e1 e2;exact HV h1 h2
 refine Sim.els (λz=>?_) ?_
 ·subst z;exact S2 ha λZ Z Z Z h1 h2=>SB λZ e=>by subst e;exact ZU h1 h2
 exact Sim.fail
theorem mT{b:Int}{x:Value}(h:VR Y0 (.int b) x):Sim U Y0 VR (FX (.rng 0 b 1) >>=λn=>Pure.pure (V.ref n)) (call (.type "range") [x]):=by
 refine Sim.of_at λY s r ex st=>?_;obtain x11|t|rfl:=h;exact At.newV st _ {cls:= .type "range",data:= .fields #[.int 0 r.toks,.int b t,.int 1 (r.toks+1)]} _ (r.toks+1+1) rfl (i31 _ _ _ rfl) (HC st) λQ E k=>call_range_1 k
theorem nT{a b c:Int}{x y z:Value}(h1:VR Y0 (.int a) x)(h2:VR Y0 (.int b) y)(h3:VR Y0 (.int c) z)(hn:0<=a/\a<=100000/\0<=b/\b<=100000/\0 < c/\c<=100000):
  Sim U Y0 VR (FX (.rng a b c) >>=λn=>Pure.pure (V.ref n)) (call (.type "range") [x,y,z]):=by
 refine Sim.of_at λY s r ex st=>?_;obtain x11|t|rfl:=h1;obtain x11|u|rfl:=h2;obtain x11|v|rfl:=h3;exact At.newV st _ {cls:= .type "range",data:= .fields #[.int a t,.int b u,.int c v]} _ r.toks rfl (i31 _ _ _ rfl) (HC st) λQ E k=>call_range_3 (hU hn.2.2.2.2.1) k (Or.inl (PyProof.noPylong_small (eG.mp (by rw [Int.natAbs_of_nonneg (eS hn.2.2.2.2.1)];exact cD hn.2.2.2.2.2 (by decide)))))
theorem DW{a:V}{x:Value}(ha:VR Y0 a x):Sim U Y0 VR (ZD "list" [a]) (call (.type "list") [x]):=by
 refine Sim.of_at λY s r ex st=>?_;show At U Y s r VR (IX a >>=λvs=>BX (decide _) >>=λZ=>FX (.list vs) >>=λn=>Pure.pure (V.ref n)) _;refine At.listAt st (ha.mono ex) λn vs ax xs k e1 h1 e2 Ah g r1=>?_;subst e2;refine At.need λhn=>At.newList st _ λQ E kk=>?_;have hn:=aX hn;refine call_list_seq ax (.inl rfl) g rfl rfl (λh' c' hk hD=>kk r.heap.objs.size _ h' r.toks xs c' hk Heap.fresh_none (aV st.big) (by simpa using hD) r1 λhf=>i12 _ hf rfl) ?_;rw [bU,<-r1.length];exact aE hn FA
theorem qS(hh:U.A.handled=none){x:Value}(ha:VR Y0 (.ref n) x):Sim U Y0 VR (ZD "bytes" [.ref n]) (call (.type "bytes") [x]):=by
 refine Sim.of_at λY s r ex st=>?_;show At U Y s r VR (IX (.ref n) >>=λvs=>DX (NE vs) >>=λns=>BX (decide _ && _) >>=λZ=>Pure.pure (V.bytes (byteArr ns))) _;refine At.listAt st (ha.mono ex) λn vs ax xs k e1 h1 e2 Ah g r1=>?_;subst e2;refine At.opt λns Be=>At.need λhn=>?_;rw [bY] at hn;obtain x02|hn1|hn2:=hn;have hn1:=aX hn1;rw [eB] at hn2;have hi:=qG Be r1;refine At.done (a:= .bytes (byteArr ns)) (s':=s) rfl λQ E kk=>?_;refine call_bytes_ints (vs:=xs) (ns:=ns) (i13 _ g rfl ⟨_,rfl⟩) hi (λn hm=>aX (hn2 n hm)) ?_ hh λh' t k hk=>?_
 ·rw [<-r1.length];exact aE (aE hn1 (by decide)) FA
 ·exact kk Y _ _ (Ext.refl _) (st.keeps (tk:=k) (d:=r.drawn) hk) ⟨t,rfl⟩
theorem AS(b:Array UInt8)(t:Tok):
  Meets (Builtin.«enumerate.__new__» ⟨[.type "enumerate",.bytes b t],[]⟩) (λZ R s=>
   R (.ok (.ret (.ref (s.heap.push {cls:= .type "bytes_iterator",data:= .fields #[.bytes b t,.int 0 0]}).objs.size)))
    {s with heap:=(s.heap.push {cls:= .type "bytes_iterator",data:= .fields #[.bytes b t,.int 0 0]}).push {cls:= .type "enumerate",data:= .fields #[.none,.bool false,.ref s.heap.objs.size,rawInt 0,.none,.none]}}):=
 .of_wp λprog w A R s h=>by
  obtain ⟨hp,g,d,tk,os⟩:=s;have pZ:=sub_enumerate;have ctt:∀ {A:Around} {E:Value->Shared->Prop} {s:Shared} {cls:Value} {Q:Bool->Shared->Prop},(∀ b,Q b s)->wpAny (model prog w) A (Builtin.SmallTypes.calledThroughType cls) Q E s:=λ{A E s cls Q} k=>aA (wpAny_stack_any λst=>aG (k _))
  wp_walk using ctt
  intro bb
  induction bb
  ·wp_walk using KBw.pyIter_bytes
   exact i12 _ rfl h
  ·wp_walk using KBw.pyIter_bytes
   exact i12 _ rfl h
theorem GP{s:Shared}{t:Tok}{Q:Value->Shared->Prop}
  (h:Q (.ref (s.heap.objs.size+1)) {s with heap:=(s.heap.push {cls:= .type "bytes_iterator",data:= .fields #[.bytes b t,.int 0 0]}).push {cls:= .type "enumerate",data:= .fields #[.none,.bool false,.ref s.heap.objs.size,rawInt 0,.none,.none]}}):
  wpAny (model U.prog U.G.w) A (call (.type "enumerate") [.bytes b t]) Q E s:=by
 refine callType_new PySem.F.called_enumerate (by decide) (PySem.F.typeCall_enumerate_1 _) (PySem.F.newCall_enumerate_1 _) (λobj=>PySem.F.args_object_init_2 obj _) PySem.F.entry_enumerate_new
  (AS b t) ?_
 have hz:(s.heap.push {cls:= .type "bytes_iterator",data:= .fields #[.bytes b t,.int 0 0]}).objs.size=s.heap.objs.size+1:=gZ ..;show _/\_;rw [hz];have he:IsEnum ((s.heap.push {cls:= .type "bytes_iterator",data:= .fields #[.bytes b t,.int 0 0]}).push
   {cls:= .type "enumerate",data:= .fields #[.none,.bool false,.ref s.heap.objs.size,rawInt 0,.none,.none]}) (s.heap.objs.size+1) s.heap.objs.size 0 .none:=by
  have:=bC (s.heap.push {cls:= .type "bytes_iterator",data:= .fields #[.bytes b t,.int 0 0]})
   (o:={cls:= .type "enumerate",data:= .fields #[.none,.bool false,.ref s.heap.objs.size,rawInt 0,.none,.none]}) rfl
  rw [hz] at this;exact this
 exact ⟨i12 _ he rfl,h⟩
theorem uW{x:Value}(ha:VR Y0 (.bytes b) x):Sim U Y0 VR (FX (.itB b 0) >>=λn=>FX (.itE n 0 none) >>=λe=>Pure.pure (V.ref e)) (call (.type "enumerate") [x]):=by
 refine Sim.of_at λY s r ex st=>?_;obtain x11|t|rfl:=ha;refine At.done (a:= .ref (s.h.length+1)) (s':={s with h:=s.h++ [.itB b 0]++ [.itE s.h.length 0 none]}) ?_ λQ E k=>GP ?_
 ·show some (Res.ok (V.ref (s.h++ [O.itB b 0]).length),_)=_;simp
 have hz:(r.heap.push {cls:= .type "bytes_iterator",data:= .fields #[.bytes b t,.int 0 0]}).objs.size=r.heap.objs.size+1:=gZ ..;have Al:StL U (Y++ [r.heap.objs.size]) {s with h:=s.h++ [.itB b 0]} {r with heap:=r.heap.push {cls:= .type "bytes_iterator",data:= .fields #[.bytes b t,.int 0 0]}}:=
  st.alloc (tk:=r.toks) (λb o e=>aM _ e) Heap.fresh_none (bC _ rfl) ⟨rfl,t,rfl⟩ (aV st.big)
 have hin:(Y++ [r.heap.objs.size])[s.h.length]? =some r.heap.objs.size:=by rw [<-st.len];simp
 have Aq:StL U (Y++ [r.heap.objs.size]++ [(r.heap.push {cls:= .type "bytes_iterator",data:= .fields #[.bytes b t,.int 0 0]}).objs.size]) {s with h:=s.h++ [.itB b 0]++ [.itE s.h.length 0 none]} {r with heap:=(r.heap.push {cls:= .type "bytes_iterator",data:= .fields #[.bytes b t,.int 0 0]}).push {cls:= .type "enumerate",data:= .fields #[.none,.bool false,.ref r.heap.objs.size,rawInt 0,.none,.none]}}:=
  Al.alloc (tk:=r.toks) (λb o e=>aM _ e) Heap.fresh_none (bC _ rfl) (i33 _ _ _ (pE hin) rfl rfl) (aV Al.big)
 rw [hz] at Aq;refine k _ _ _ ((Ext.one _ _).trans (Ext.one _ _)) Aq (i12 _ ?_ rfl);rw [<-st.len];simp
theorem sS(hh:U.A.handled=none){n:String}{args:List V}(ha:VsR Y0 args xs):Sim U Y0 VR (ZD n args) (call (.type n) xs):=by
 unfold ZD;refine Sim.els (λz=>?_) ?_
 ·subst z;refine S1 ha λu x h=>?_
  induction u <;> try exact Sim.fail
  ·obtain x11|t|rfl:=h;exact Sim.pureT λr Q E k=>NG (k _ r.toks λZ Z=>⟨t,rfl⟩)
  ·exact qS hh h
 refine Sim.els (λz=>?_) ?_
 ·subst z;exact S1 ha λZ Z h=>SB λZ e=>by subst e;exact uW h
 refine Sim.els (λz=>?_) ?_
 ·subst z;exact S1 ha λZ Z h=>DW h
 refine Sim.els (λz=>?_) Sim.fail
 ·subst z;rcases args with _ | ⟨u,_ | ⟨v,r⟩⟩
  ·exact Sim.fail
  ·exact S1 ha λZ Z h=>SI λZ e=>by subst e;exact mT h
  ·exact S3 ha λZ Z Z Z Z Z h1 h2 h3=>SI λZ e1=>SI λZ e2=>SI λZ e3=>by subst e1 e2 e3;exact Sim.need λhn=>nT h1 h2 h3 (aX hn)
end
end
section
open PyProof.Rows.LSm
theorem At.bind{β γ δ:Type}{U:Lev}{s:S}{r:Shared}{R:List Addr->α->β->Prop}{R':List Addr->γ->δ->Prop}{m:M α}{f:α->M γ}{t:Sem β}{g:β->Sem δ}(h:Sim U Y R m t)(st:StL U Y s r)
  (k:∀ Y' a b s' r',Ext Y Y'->m s=some (.ok a,s')->StL U Y' s' r'->R Y' a b->At U Y' s' r' R' (f a) (g b)):At U Y s r R' (m >>=f) (t >>=g):=by
 refine ⟨λQ E pe nn ok exc=>aA (h.run Y s r _ E (Ext.refl _) st pe (bind_some nn) (λa s' ea Y' b r' x' st' hb=>?_) λc s' ec=>exc c s' (EA ec))⟩;refine (k Y' a b s' r' x' ea st' hb).go Q E pe ?_ (λa2 s2 e2 Y2 b2 r2 x2=>ok a2 s2 (by rw [nA ea];exact e2) Y2 b2 r2 (x'.trans x2)) (λc s2 e2 Y2 b2 r2 x2=>exc c s2 (by rw [nA ea];exact e2) Y2 b2 r2 (x'.trans x2));rw [nA ea] at nn;exact nn
theorem Sim.holdBind{β γ:Type}{U:Lev}{R:List Addr->α->β->Prop}{m:M α}{vs:List Value}{t:Sem γ}{f:γ->Sem β}(h:Sim U Y R m (t >>=f)):Sim U Y R m (PySem.holding vs t >>=f):=
 ⟨λY s r Q E x st pe nn ok exc=>by
  have:=h.run Y s r Q E x st pe nn ok exc;intro Γ p hΓ;have h2:=this Γ p hΓ;rw [Sem.wp_bind'] at h2 ⊢;rw [Sem.wp_holding];exact h2⟩
section
variable {U:Lev} {Y0:List Addr} {F:Fns} {J:Ev}
theorem Sim.release{β:Type}{R:List Addr->α->β->Prop}{m:M α}{vs ks:List Value}{f:Unit->Sem β}(h:Sim U Y0 R m (f ())):Sim U Y0 R m (release vs ks >>=f):=
 Sim.skip (λq=>wpAny_release (q ())) λZ=>h
theorem YJ{x:Value}(h:VR Y0 v x):Sim U Y0 (λZ a b=>a=b) (IC v) (truthy x):=by
 induction v with
 | none=>cases h;exact Sim.pureT λr Q E k=>truthy_none (k _ r.toks λZ Z=>rfl)
 | bool b=>cases h;exact Sim.pureT λr Q E k=>wpAny_truthy_bool (k _ r.toks λZ Z=>rfl)
 | _=>exact Sim.fail
variable (W:Wd U.G K) (So:Sound U.prog U.G F) (e:EvR U Y0 J)
include So e
theorem BB(x:Expr)(ex:Ext Y0 Y):Sim U Y VR (F.ev x J) (eval x U.env):=So.ev U J Y x rfl rfl (e.mono ex)
theorem XJ(x:Expr)(ex:Ext Y0 Y):Sim U Y (λZ a b=>a=b) (F.tr x J) (isTrue x U.env (eval x U.env)):=So.tr U J Y x rfl rfl (e.mono ex)
theorem WW(l r:Expr)(op:Operator)(pos:Pos):Sim U Y0 VR (F.ev l J >>=λa=>F.ev r J >>=λb=>binM op a b) (eval (.BinOp l op r pos) U.env):=by
 show Sim U Y0 VR _ (eval l U.env >>=λa=>holding [a] (eval r U.env) >>=λb=>standAt pos >>=λZ=>operate [a,b] (binaryOp op a b));refine Sim.bind (BB So e l (Ext.refl _)) λY a x ex ha=>Sim.bind (Sim.holding (BB So e r ex)) λY' b y ex' hb=>Sim.at (Sim.operate (XW op (ha.mono ex') hb))
theorem un_E(op:UnaryOp)(x:Expr)(pos:Pos):Sim U Y0 VR (unM F op x J) (eval (.UnaryOp op x pos) U.env):=by
 show Sim U Y0 VR _ (eval x U.env >>=λv=>standAt pos >>=λZ=>holding [v] (unaryOp op v))
 induction op with
 | Not=>
  refine Sim.bind (BB So e x (Ext.refl _)) λY a y ex ha=>Sim.at (Sim.holding ?_);refine ⟨λY' s r Q E x' st pe nn ok exc=>not_of ?_⟩;have h:=(YJ (U:=U) ha).run Y' s r (λc s'=>Q (.bool (!c)) s') E x' st pe (bind_some nn);refine h (λk s' ek Y'' b r' x'' st' hb=>?_) (λc s' ek=>?_)
  ·subst hb;exact ok (.bool (!k)) s' (by rw [nA ek];rfl) Y'' _ r' x'' st' rfl
  ·exact exc c s' (EA ek)
 | USub=>
  refine Sim.bind (BB So e x (Ext.refl _)) λY a y ex ha=>Sim.at (Sim.holding ?_)
  induction a with
  | int i=>
   obtain x11|t|rfl:=ha;exact Sim.pureT λr Q E k=>PyProof.Rows.neg_int (k _ _ λZ Z=>⟨_,rfl⟩)
  | _=>exact Sim.fail
 | _=>exact Sim.fail
theorem if_E(t b o:Expr)(pos:Pos):Sim U Y0 VR (F.tr t J >>=λc=>if c then F.ev b J else F.ev o J) (eval (.IfExp t b o pos) U.env):=by
 show Sim U Y0 VR _ (isTrue t U.env (eval t U.env) >>=λc=>if c then eval b U.env else eval o U.env);refine Sim.bind (XJ So e t (Ext.refl _)) λY a y ex ha=>?_;subst ha
 induction a with
 | true=>exact BB So e b ex
 | false=>exact BB So e o ex
theorem nW(op:BoolOp)(pos:Pos):∀ (vs:List Expr) {Y:List Addr},Ext Y0 Y->Sim U Y VR (qJ F J op vs) (boolOp pos op (evalEach vs U.env)):=by
 intro vs
 induction vs with
 | nil=>exact λZ=>Sim.fail
 | cons x r ih=>
  intro Y ex
  induction r using lCq with
  | nil=>exact BB So e x ex
  | cons y r=>
   show Sim U Y VR (F.ev x J >>=λv=>IC v >>=λt=>match (generalizing:=false) op,t with | .And,false=>Pure.pure v | .Or,true=>Pure.pure v | _,_=>qJ F J op (y::r))
    (eval x U.env >>=λv=>standAt pos >>=λZ=>holding [v] (truthy v) >>=λt=>match (generalizing:=false) op,t with | .And,false | .Or,true=>Pure.pure v | _,_=>boolOp pos op (evalEach (y::r) U.env))
   refine Sim.bind (BB So e x ex) λY1 a v Ak ha=>Sim.at (Sim.bind (Sim.holding (YJ ha)) λY2 k k' Ap hk=>?_);subst hk;have iY:=ih ((ex.trans Ak).trans Ap);have here:Sim U Y2 VR (Pure.pure a) (Pure.pure v):=Sim.pure λY' ex'=>(ha.mono Ap).mono ex'
   induction op <;> cases k <;> first | exact here | exact iY
theorem XU(op:BoolOp):∀ (vs:List Expr) {Y:List Addr},Ext Y0 Y->Sim U Y (λZ a b=>a=b) (PD F J op vs) (allTrue op vs U.env):=by
 intro vs
 induction vs with
 | nil=>intro _ _;exact Sim.pure λZ Z=>rfl
 | cons x r ih=>
  intro Y ex;show Sim U Y _ (F.tr x J >>=λt=>match op,t with | .And,false=>Pure.pure false | .Or,true=>Pure.pure true | _,_=>PD F J op r)
   (isTrue x U.env (eval x U.env) >>=λt=>match op,t with | .And,false=>Pure.pure false | .Or,true=>Pure.pure true | _,_=>allTrue op r U.env)
  refine Sim.bind (XJ So e x ex) λY1 a v Ak ha=>?_;subst ha;have iY:=ih (ex.trans Ak)
  induction op <;> cases a <;> first | exact Sim.pure λZ Z=>rfl | exact iY
omit So e in
theorem BP{op:CmpOp}{x:Expr}(h:EB x=true):behindInMarks op x=false:=by induction x using eCq <;> first | rfl | exact aS h aW
omit So e in
theorem GH:∀ (ops:List CmpOp) (xs:List Expr) (ts:List (Sem Value)),xs.all EB=true->markedEach ops xs ts=ts:=by
 intro ops xs ts
 induction ts generalizing ops xs with
 | nil=>
  intro _
  induction ops using lCq with
  | nil=>rfl
  | cons o os=>induction xs using lCq with
   | nil=>induction os using lCq with | nil=>rfl | cons _ _=>rfl
   | cons x xs=>induction os using lCq with
    | nil=>induction xs using lCq with | nil=>rfl | cons _ _=>rfl
    | cons _ _=>rfl
 | cons t ts ih=>
  intro h
  induction ops using lCq with
  | nil=>rfl
  | cons o os=>induction xs using lCq with
   | nil=>induction os using lCq with | nil=>rfl | cons _ _=>rfl
   | cons x xs=>
    rw [gS,bY] at h
    induction os using lCq with
    | nil=>induction xs using lCq with
     | nil=>induction ts using lCq with
      | nil=>
       show [markedBehindIn o x t]=_;rw [markedBehindIn_of_false (BP h.1)]
      | cons _ _=>rfl
     | cons x2 xs=>exact aU (List.cons t) (ih [] (x2::xs) h.2)
    | cons o2 os=>exact aU (List.cons t) (ih (o2::os) xs h.2)
theorem wE(pos:Pos){β:Type}{R:List Addr->Bool->β->Prop}{D:Value->β}(hD:∀ Y,R Y false (D (.bool false))){op:CmpOp}{y:Expr}{A:V->M Bool}{B:Value->Sem β}{a:V}{x:Value}(ex:Ext Y0 Y)(ha:VR Y a x)(iY:∀ {Y' b v},Ext Y Y'->VR Y' b v->Sim U Y' R (A b) (B v)):
  Sim U Y R (F.ev y J >>=λr=>cmpM op a r >>=λk=>if k then A r else Pure.pure false)
   (holding [x] (eval y U.env) >>=λrv=>standAt pos >>=λZ=>holding [x,rv] (compareOp op x rv) >>=λc=>release [x,rv] [c] >>=λZ=>holding [c,rv] (truthy c) >>=λt=>if t then B rv else Pure.pure (D c)):=by
 refine Sim.bind (Sim.holding (BB So e y ex)) λY1 b v Ak hb=>Sim.at (Sim.bind (Sim.holding (jV op (room e.a.units) (ha.mono Ak) hb)) λY2 k c Ap hk=>Sim.release ?_);cases hk;refine ⟨λY3 s r Q E Av st pe nn ok exc=>aA (bT (wpAny_truthy_bool ?_))⟩
 induction k with
 | true=>exact (iY (Ak.trans Ap) (hb.mono Ap)).run Y3 s r Q E Av st pe nn ok exc
 | false=>exact (Sim.pure λY' Z=>hD Y':Sim U Y2 R (Pure.pure false) (Pure.pure (D (Value.bool false)))).run Y3 s r Q E Av st pe nn ok exc
theorem iV(pos:Pos):∀ (ops:List CmpOp) (xs:List Expr) {Y:List Addr} {a:V} {x:Value},Ext Y0 Y->VR Y a x->Sim U Y QO (iE F J a ops xs) (compareChain pos x ops (evalEach xs U.env)):=by
 intro ops
 induction ops with
 | nil=>intro xs Y a x _ _;exact Sim.fail
 | cons op os ih=>
  intro xs Y a x ex ha
  induction xs using lCq with
  | nil=>induction os using lCq with | nil=>exact Sim.fail | cons _ _=>exact Sim.fail
  | cons y ys=>
   induction os using lCq with
   | nil=>
    induction ys using lCq with
    | nil=>
     show Sim U Y QO (F.ev y J >>=λr=>cmpM op a r) (holding [x] (eval y U.env) >>=λrv=>standAt pos >>=λZ=>operate [x,rv] (compareOp op x rv));exact Sim.bind (Sim.holding (BB So e y ex)) λY1 b v Ak hb=>Sim.at (Sim.operate (jV op (room e.a.units) (ha.mono Ak) hb))
    | cons y2 ys=>exact wE So e pos (R:=QO) (D:=λc=>c) (λZ=>rfl) (A:=λr=>iE F J r [] (y2::ys)) (B:=λrv=>compareChain pos rv [] (evalEach (y2::ys) U.env)) ex ha λ_ _=>Sim.fail
   | cons o2 os=>exact wE So e pos (R:=QO) (D:=λc=>c) (λZ=>rfl) (A:=λr=>iE F J r (o2::os) ys) (B:=λrv=>compareChain pos rv (o2::os) (evalEach ys U.env)) ex ha λAp hb=>ih ys (ex.trans Ap) hb
theorem FM(pos:Pos):∀ (ops:List CmpOp) (xs:List Expr) {Y:List Addr} {a:V} {x:Value},Ext Y0 Y->VR Y a x->Sim U Y (λZ a b=>a=b) (iE F J a ops xs) (testChain pos x ops (evalEach xs U.env)):=by
 intro ops
 induction ops with
 | nil=>intro xs Y a x _ _;exact Sim.fail
 | cons op os ih=>
  intro xs Y a x ex ha
  induction xs using lCq with
  | nil=>induction os using lCq with | nil=>exact Sim.fail | cons _ _=>exact Sim.fail
  | cons y ys=>
   induction os using lCq with
   | nil=>
    induction ys using lCq with
    | nil=>
     show Sim U Y _ (F.ev y J >>=λr=>cmpM op a r) (holding [x] (eval y U.env) >>=λrv=>standAt pos >>=λZ=>operate [x,rv] (compareOp op x rv) >>=λc=>holding [c] (truthy c));refine Sim.bind (Sim.holding (BB So e y ex)) λY1 b v Ak hb=>Sim.at ?_;refine ⟨λY3 s r Q E Av st pe nn ok exc=>aA ((Sim.operate (jV op (room e.a.units) (ha.mono Ak) hb)).run Y3 s r _ E Av st pe nn (λk s' ek Y' c r' x' st' hc=>?_) exc)⟩;cases hc;exact bT (wpAny_truthy_bool (ok k s' ek Y' k r' x' st' rfl))
    | cons y2 ys=>exact wE So e pos (R:=λZ a b=>a=b) (D:=λZ=>false) (λZ=>rfl) (A:=λr=>iE F J r [] (y2::ys)) (B:=λrv=>testChain pos rv [] (evalEach (y2::ys) U.env)) ex ha λ_ _=>Sim.fail
   | cons o2 os=>exact wE So e pos (R:=λZ a b=>a=b) (D:=λZ=>false) (λZ=>rfl) (A:=λr=>iE F J r (o2::os) ys) (B:=λrv=>testChain pos rv (o2::os) (evalEach ys U.env)) ex ha λAp hb=>ih ys (ex.trans Ap) hb
theorem ZW(l:Expr)(ops:List CmpOp)(rs:List Expr)(pos:Pos):Sim U Y0 VR (BX (rs.all EB) >>=λZ=>F.ev l J >>=λa=>iE F J a ops rs >>=λk=>Pure.pure (.bool k)) (eval (.Compare l ops rs pos) U.env):=by
 refine Sim.need λhn=>?_;show Sim U Y0 VR _ (eval l U.env >>=λa=>compareChain pos a ops (markedEach ops rs (evalEach rs U.env)));rw [GH ops rs _ hn];refine Sim.bind (BB So e l (Ext.refl _)) λY a x ex ha=>?_;refine ⟨λY3 s r Q E Av st pe nn ok exc=>?_⟩;refine (iV So e pos ops rs ex ha).run Y3 s r Q E Av st pe (bind_some nn) (λk s' ek Y' c r' x' st' hc=>?_) λc s' ec=>exc c s' (EA ec);cases hc;exact ok (.bool k) s' (by rw [nA ek];rfl) Y' _ r' x' st' rfl
omit So e in
theorem KC{x:Expr}{r:List Expr}(h:WA x=true):starEach (x::r) env=(false,eval x env)::starEach r env:=by
 induction x using eCq <;> first | rfl | exact aS h aW
theorem qV(pos:Pos):∀ (xs:List Expr) {Y:List Addr},Ext Y0 Y->Sim U Y VsR (MX F xs J) (spliced (backTo pos (starEach xs U.env))):=by
 intro xs
 induction xs with
 | nil=>intro _ _;exact Sim.pure λZ Z=>trivial
 | cons x r ih=>
  intro Y ex;refine Sim.ite (λh=>?_) λZ=>Sim.fail
  ·rw [KC h];show Sim U Y VsR _ (eval x U.env >>=λv=>Pure.pure [v] >>=λhere=>holding here (spliced (backTo pos (starEach r U.env))) >>=λl=>Pure.pure (here++l));refine Sim.bind (BB So e x ex) λY1 a v Ak ha=>?_;rw [pure_bind];refine Sim.bind (Sim.holding (ih (ex.trans Ak))) λY2 l l' Ap hl=>Sim.pure λY3 Av=>⟨(ha.mono Ap).mono Av,hl.mono Av⟩
end
section
variable {U:Lev} {Y0:List Addr} {F:Fns} {J:Ev}
theorem DI{F:Fns}{J:Ev}:∀ {xs:List Expr} {vs:List V} {s s':S},MX F xs J s=some (.ok vs,s')->vs.length=xs.length:=by
 intro xs
 induction xs with
 | nil=>intro vs s s' h;cases h;rfl
 | cons x r ih=>
  intro vs s s' h;have h:(if WA x=true then F.ev x J >>=λv=>MX F r J >>=λl=>Pure.pure (v::l) else EX:M (List V)) s=some (.ok vs,s'):=h;by_cases hx:WA x=true
  ·rw [aN hx] at h;obtain x22|v|s1|h1|h2:=tD h;obtain x22|l|s2|h3|h4:=tD h2;cases h4;exact aU (· +1) (ih h3)
  ·rw [aJ hx] at h;exact nos h
variable (So:Sound U.prog U.G F) (e:EvR U Y0 J)
include So e
theorem CW(xs:List Expr)(pos:Pos):Sim U Y0 VR (BX (decide (xs.length<=1000)) >>=λZ=>MX F xs J >>=λl=>FX (.list l) >>=λn=>Pure.pure (.ref n)) (eval (.List xs pos) U.env):=by
 refine Sim.need λhn=>?_;have hn:=aX hn;show Sim U Y0 VR _ (standAt pos >>=λZ=>spliced (backTo pos (starEach xs U.env)) >>=λl=>PySem.newList l);refine Sim.at ⟨λY s r Q E ex st pe nn ok exc=>aA ((qV So e pos xs (Ext.refl _)).run Y s r _ E ex st pe (bind_some nn) (λvs s' ev Y' l r' x' st' hl=>?_) λc s' ec=>exc c s' (EA ec))⟩;have hlen:l.length<=1000:=by rw [<-hl.length,DI ev];exact hn
 refine (At.newV (R:=VR) st' (.list vs) {cls:= .type "list",data:= .seq l.toArray} (.ref r'.heap.objs.size) r'.toks rfl ⟨⟨rfl,rfl,rfl⟩,l,0,rfl,hl.mono (Ext.one _ _)⟩ (HC st') λQ E k=>gV k (aE hlen (aE (by decide) FA))).go Q E pe ?_ (λa s2 ea Y2 b r2 x2=>ok a s2 (by rw [nA ev];exact ea) Y2 b r2 (x'.trans x2)) (λc s2 ec Y2 b r2 x2=>exc c s2 (by rw [nA ev];exact ec) Y2 b r2 (x'.trans x2));rw [nA ev] at nn;exact nn
theorem AX(xs:List Expr)(cx:Nat)(pos:Pos):Sim U Y0 VR (BX (decide (xs.length<=1000)) >>=λZ=>MX F xs J >>=λl=>FX (.tup l) >>=λn=>Pure.pure (.ref n)) (eval (.Tuple xs cx pos) U.env):=by
 refine Sim.need λhn=>?_;have hn:=aX hn;show Sim U Y0 VR _ (standAt pos >>=λZ=>spliced (backTo pos (starEach xs U.env)) >>=λl=>PySem.newTuple l);refine Sim.at (Sim.of_at λY s r ex st=>At.bind (qV So e pos xs ex) st λY' vs l s' r' x' ev st' hl=>?_);have hlen:l.length<=1000:=by rw [<-hl.length,DI ev];exact hn
 exact At.newV st' (.tup vs) {cls:= .type "tuple",data:= .seq l.toArray} (.ref r'.heap.objs.size) r'.toks rfl ⟨rfl,l,0,rfl,hl.mono (Ext.one _ _)⟩ (HC st') λQ E k=>wpAny_newTuple k (aE hlen (aE (by decide) FA))
omit So e in
theorem ZF{o:Expr}{name:Str}{whole:Sem Value}(h:iD o=true):attributeBase o name env whole=whole:=by
 induction o using eCq with
 | Call f a k p=>induction f using eCq with
  | Name x q=>induction a using lCq with
   | nil=>induction k using lCq with
    | nil=>cases h
    | cons _ _=>rfl
   | cons _ _=>rfl
  | _=>rfl
 | _=>rfl
theorem QK(x:Option Expr)(ex:Ext Y0 Y):Sim U Y VR (optE F x J) (valueOrNone (evalOpt x U.env)):=by
 induction x with
 | none=>exact Sim.pure λZ Z=>rfl
 | some y=>exact BB So e y ex
omit So e in
theorem zT{o i:Expr}{pos:Pos}:eval (.Subscript o i pos) env=(eval o env >>=λov=>holding [ov] (eval i env) >>=λiv=>standAt pos >>=λZ=>subscriptTail o i ov iv):=rfl
theorem xX(o i:Expr)(pos:Pos):Sim U Y0 VR (subE F o i J) (eval (.Subscript o i pos) U.env):=by
 rw [zT];have plain:Sim U Y0 VR (F.ev o J >>=λov=>F.ev i J >>=λiv=>GJ ov iv) (eval o U.env >>=λov=>holding [ov] (eval i U.env) >>=λiv=>standAt pos >>=λZ=>subscriptTail o i ov iv):=
  Sim.bind (BB So e o (Ext.refl _)) λY a x ex ha=>Sim.bind (Sim.holding (BB So e i ex)) λY' b y ex' hb=>Sim.at (BW (ha.mono ex') hb o i)
 unfold subE;cases hs:vC i with
 | some q=>
  clear plain;obtain ⟨⟨lo,hi,st⟩,p⟩:=q;refine uH (m:=λi=>Sim U Y0 VR (F.ev o J >>=λov=>optE F lo J >>=λl=>optE F hi J >>=λu=>optE F st J >>=λt=>TH ov l u t) (eval o U.env >>=λov=>holding [ov] (eval i U.env) >>=λiv=>standAt pos >>=λZ=>subscriptTail o i ov iv)) hs ?_;show Sim U Y0 VR _ (eval o U.env >>=λov=>holding [ov] (valueOrNone (evalOpt lo U.env) >>=λl=>holding [l] (valueOrNone (evalOpt hi U.env)) >>=λu=>holding [l,u] (valueOrNone (evalOpt st U.env)) >>=λs=>newFields "slice" [l,u,s]) >>=λiv=>standAt pos >>=λZ=>subscriptTail o (.Slice lo hi st p) ov iv);refine Sim.bind (BB So e o (Ext.refl _)) λY1 a x Ak ha=>Sim.holdBind (Sim.assoc ?_);refine Sim.bind (QK So e lo Ak) λY2 l y Ap hl=>Sim.assoc (Sim.holdBind ?_);refine Sim.bind (QK So e hi (Ak.trans Ap)) λY3 u z Av hu=>Sim.assoc (Sim.holdBind ?_);refine Sim.bind (QK So e st ((Ak.trans Ap).trans Av)) λY4 t w ex4 ht=>?_;exact EV (((ha.mono Ap).mono Av).mono ex4) ((hl.mono Av).mono ex4) (hu.mono ex4) ht o (.Slice lo hi st p) pos
 | none=>exact plain
theorem jW(W:Wd U.G K)(o:Expr)(name:Str)(pos:Pos):Sim U Y0 VR (BX (iD o) >>=λZ=>F.ev o J >>=λov=>AF K ov name) (eval (.Attribute o name pos) U.env):=by
 refine Sim.need λhn=>?_;show Sim U Y0 VR _ (attributeBase o name U.env (eval o U.env) >>=λov=>standAt pos.atName >>=λZ=>holding [ov] (getAttr ov name true) >>=λr=>letTemporaryGo o ov r >>=λZ=>Pure.pure r);rw [ZF hn];refine Sim.bind (BB So e o (Ext.refl _)) λY a x ex ha=>Sim.at ?_;refine ⟨λY s r Q E x' st pe nn ok exc=>aA (bT ((vQ W ha name true).run Y s r _ E x' st pe nn (λb s' eb Y' y r' x'' st' hb=>?_) exc))⟩;exact aA (wpAny_letTemporaryGo (aG (ok b s' eb Y' y r' x'' st' hb)))
end
end
section
open PyProof.Rows.LSm
section
variable {U:Lev} {Y0:List Addr} {F:Fns} {J:Ev} {s:S} {r:Shared}
theorem DL(W:Wd U.G K)(st:StL U Y s r){f:V}{x:Value}(hf:VR Y f x){u:Unit}{s':S}(h:tC K f s=some (.ok u,s')):s'=s/\∃ k,(k=Keeper.frame\/k=Keeper.machine\/k=Keeper.boundFrame)/\Looks (model U.prog U.G.w) r.heap (keeperOf x) k:=by
 induction f with
 | ref n=>
  obtain x12|a|ea|rfl:=hf;refine GD h λo h1 h2=>?_
  induction o with
  | lam b sc ce=>
   cases h2;obtain x12|ob|g|Do:=st.at h1 (ndd rfl) ea;obtain x51|q|cl|pm|c|ct|Dp:=Do;obtain x02|rfl|u_:=Dp;exact ⟨rfl,.frame,.inl rfl,(Looks.ld (part:=none) g).andThen .now⟩
  | _=>exact nos h2
 | glob a=>
  cases hf;obtain x02|h1|rfl:=QQ h;exact ⟨rfl,keeps_K h1 _ (W.X.keeps st.base)⟩
 | bi i=>cases h;cases hf;exact ⟨rfl,.machine,.inr (.inl rfl),Looks.of_pure rfl⟩
 | ty n=>cases h;cases hf;exact ⟨rfl,.machine,.inr (.inl rfl),Looks.of_pure rfl⟩
 | _=>exact nos h
theorem CL{f:V}{s:S}{res:Res Unit}{s':S}(h:tC K f s=some (res,s')):∃ u,res= .ok u:=by
 induction f with
 | ref n=>
  refine GD h λo Z h2=>?_
  induction o with
  | lam b sc ce=>cases h2;exact ⟨_,rfl⟩
  | _=>exact nos h2
 | glob a=>
  have h:BX (keepIn K (.ref a)) s=_:=h;cases hk:keepIn K (.ref a) <;> rw [hk] at h
  ·exact nos h
  ·cases h;exact ⟨_,rfl⟩
 | bi i=>cases h;exact ⟨_,rfl⟩
 | ty n=>cases h;exact ⟨_,rfl⟩
 | _=>exact nos h
theorem kE{M:Model}{s:Shared}{f:Value}{pos:Pos}{xs:List Expr}{Q:Args->Shared->Prop}(hn:xs.all WA=true)(h:wpAny M A (spliced (backTo pos (starEach xs env))) (λvs s'=>Q ⟨vs,[]⟩ s') E s):
  wpAny M A (evalArgs f true (backTo pos (starEach xs env)) []) Q E s:=by
 induction xs using lCq with
 | nil=>
  intro Γ p hΓ;exact evalArgs_nil3 (show Q ⟨[],[]⟩ s from h Γ p hΓ) Γ p hΓ
 | cons x r=>
  rw [gS,bY] at hn;rw [KC hn.1] at h ⊢;exact evalArgs_plain h
theorem vE{pos:Pos}:∀ {xs:List Expr} {env:Env},xs.all WA=true->(backTo pos (starEach xs env)).any (·.1)=false/\(backTo pos (starEach xs env)).all (λp=>!p.1)=true:=by
 intro xs
 induction xs with
 | nil=>intro env _;exact ⟨rfl,rfl⟩
 | cons x r ih=>
  intro env hn;rw [gS,bY] at hn;rw [KC hn.1];exact ih hn.2
variable (W:Wd U.G K) (So:Sound U.prog U.G F) (e:EvR U Y0 J)
include W So e
omit W So e in
theorem NN{f:Expr}{args:List Expr}{pos:Pos}(h:xF f=none):eval (.Call f args [] pos) env=(eval f env >>=λx=>callWith pos x [] (backTo pos (starEach args env)) []):=by
 induction f using eCq <;> first | rfl | exact nos h.symm
theorem zI(pos:Pos){f:V}{x:Value}{us:List V}{ys:List Value}(args:List Expr)(hn:args.all WA=true)(ex:Ext Y0 Y)(hf:VR Y f x)(hu:VsR Y us ys):
  Sim U Y VR (MX F args J >>=λvs=>tC K f >>=λZ=>F.call f (us++vs) J.d) (callWith pos x ys (backTo pos (starEach args U.env)) []):=by
 refine ⟨λY1 s r Q E Ak st pe nn ok exc=>?_⟩;have pl:=vE (pos:=pos) (env:=U.env) hn;refine callWith_of (P:=λh=>∃ k,(k=Keeper.frame\/k=Keeper.machine\/k=Keeper.boundFrame)/\Looks (model U.prog U.G.w) h (keeperOf x) k) (by rw [pl.1];rfl) (λZ h=>h) (kE hn ?_);refine (qV So e pos args (ex.trans Ak)).run Y1 s r _ E (Ext.refl _) st pe (bind_some nn) (λvs s' ev Y2 zs r' x2 st' hz=>?_) λc s' ec=>exc c s' (EA ec);rw [nA ev] at nn;cases hc:tC K f s' with
 | none=>rw [QA hc] at nn;exact aS rfl nn
 | some p=>
  obtain ⟨res,s1⟩:=p;obtain x11|u|rfl:=CL hc;obtain x02|rfl|kp:=DL W st' ((hf.mono Ak).mono x2) hc;rw [nA hc] at nn;refine ⟨kp,(So.call U Y2 f x (us++vs) (ys++zs) J.d rfl rfl e.a ((hf.mono Ak).mono x2) (((hu.mono Ak).mono x2).append hz)).run Y2 s1 r' Q E (Ext.refl _) st' pe nn (λa s2 e2 Y3 b r2 x3=>ok a s2 (by rw [nA ev,nA hc];exact e2) Y3 b r2 (x2.trans x3)) (λc s2 e2 Y3 b r2 x3=>exc c s2 (by rw [nA ev,nA hc];exact e2) Y3 b r2 (x2.trans x3))⟩
theorem oW(f:Expr)(args:List Expr)(kws:List Keyword)(pos:Pos):Sim U Y0 VR (EP K F f args kws pos J) (eval (.Call f args kws pos) U.env):=by
 unfold EP;refine Sim.need λhn=>?_;simp only [Bool.and_eq_true,List.isEmpty_iff,decide_eq_true_eq] at hn;obtain x02|Dn|hn:=hn;obtain x02|rfl|hlen:=Dn;have plain:eval (.Call f args [] pos) U.env=(eval f U.env >>=λx=>callWith pos x [] (backTo pos (starEach args U.env)) [])->Sim U Y0 VR (F.ev f J >>=λfv=>MX F args J >>=λvs=>tC K fv >>=λZ=>F.call fv vs J.d) (eval (.Call f args [] pos) U.env):=by
  intro q;rw [q];exact Sim.bind (BB So e f (Ext.refl _)) λY a x ex ha=>zI W So e pos (us:= []) (ys:= []) args hn ex ha trivial
 cases hf:xF f with
 | none=>exact plain (NN hf)
 | some p=>
  clear plain;obtain ⟨o,name,oY⟩:=p;refine yE (m:=λf=>Sim U Y0 VR (BX (iD o && oY.endLine==pos.line) >>=λZ=>F.ev o J >>=λov=>WC K ov name >>=λfv=>MX F args J >>=λvs=>tC K fv.1 >>=λZ=>F.call fv.1 (fv.2++vs) J.d) (eval (.Call f args [] pos) U.env)) hf ?_;refine Sim.need λhb=>?_;simp only [Bool.and_eq_true,beq_iff_eq] at hb;show Sim U Y0 VR _ (attributeBase o name U.env (eval o U.env) >>=λov=>standAt oY.atName >>=λZ=>methodCall o name oY pos U.env ov (args.length+0) (backTo pos (starEach args U.env)) []);rw [ZF hb.1];refine Sim.bind (BB So e o (Ext.refl _)) λY a x ex ha=>Sim.at ?_;have pl:=vE (pos:=pos) (env:=U.env) hn;have few:methodCallForm (args.length+0) (backTo pos (starEach args U.env)) []=true:=by
   unfold methodCallForm;rw [pl.2];simp;exact bB hlen (by decide)
  have hp:methodCallPos true o U.env oY pos=pure pos:=by
   unfold methodCallPos;rw [aN (by simp [hb.2])]
  unfold methodCall;rw [few,hp];show Sim U Y VR _ (holding [x] (getMethod x name _) >>=λfx=>pure pos >>=λp=>callWith p fx.1 fx.2 (backTo pos (starEach args U.env)) []);refine Sim.bind (Sim.holding (TS W ha name _)) λY1 fv fx Ak hm=>?_;rw [pure_bind];exact zI W So e pos args hn (ex.trans Ak) hm.1 hm.2
end
end
section
open PyProof.Rows.LSm
theorem mL{l:List Value}(h:TriplesOk l):l= []\/∃ x t y u d r,l= .int x t:: .int y u::d::r/\TriplesOk r:=by
 induction l using lCq with
 | nil=>exact .inl rfl
 | cons v l=>
  induction v using Value.casesOn with
  | int x t=>
   induction l using lCq with
   | nil=>exact h.elim
   | cons w l=>
    induction w using Value.casesOn with
    | int y u=>
     induction l using lCq with
     | nil=>exact h.elim
     | cons d r=>exact .inr ⟨_,_,_,_,_,_,rfl,h⟩
    | _=>exact h.elim
  | _=>exact h.elim
theorem IR{p:List Value->Prop}(h0:p [])(h1:∀ x t y u d r,TriplesOk r->p r->p (.int x t:: .int y u::d::r)):∀ (n:Nat) (l:List Value),l.length<=n->TriplesOk l->p l:=by
 intro n
 induction n with
 | zero=>
  intro l hn h;have e:l= []:=List.length_eq_zero_iff.mp (Nat.le_zero.mp hn);rw [e];exact h0
 | succ n ih=>
  intro l hn h;rcases mL h with rfl | ⟨x,t,y,u,d,r,rfl,k⟩
  ·exact h0
  ·exact h1 _ _ _ _ _ _ k (ih r (aE (aE (cE _) (cE _)) (eY hn)) k)
theorem nL{l:List Value}{a b:Int}{t u:Tok}{c:Value}(h:TriplesOk l):TriplesOk (l++ [.int a t,.int b u,c]):=
 IR (p:=λl=>TriplesOk (l++ [.int a t,.int b u,c])) trivial (λZ Z Z Z Z Z Z k=>k) _ l (aY _) h
theorem JN{pos:Pos}{cv:Value}{l:List Value}{a b:Int}{t u:Tok}{c:Value}(h:TriplesOk l):codeAmong pos (l++ [.int a t,.int b u,c])=some cv->codeAmong pos l=some cv\/cv=c:=by
 refine IR (p:=λl=>codeAmong pos (l++ [.int a t,.int b u,c])=some cv->codeAmong pos l=some cv\/cv=c) (λh=>?_) (λx t y u d r Z k h=>?_) _ l (aY _) h
 ·change (if a==pos.line && b==pos.col then some c else none)=_ at h;split at h
  ·exact .inr (Option.some.inj h).symm
  ·cases h
 ·change (if x==pos.line && y==pos.col then some d else codeAmong pos r)=_\/_;change (if x==pos.line && y==pos.col then some d else codeAmong pos (r++_))=_ at h;by_cases e:(x==pos.line && y==pos.col)=true
  ·rw [aN e] at h ⊢;exact .inl h
  ·rw [aJ e] at h ⊢;exact k h
theorem GM{l:List Value}{v:Value}(h:TriplesOk l)(e:l[1]? =some v):∃ a t,v= .int a t:=by
 rcases mL h with rfl | ⟨x,t,y,u,d,r,rfl,k⟩
 ·cases e
 ·exact i21 y u (Option.some.inj e).symm
theorem UK{p:Arguments}{a d:List Arg}{b e:Option Arg}{c:List (Option Expr)}{f:List Expr}{g:List Arg}(h1:p.posonlyargs=g)(h2:p.args=a)(h3:p.vararg=b)(h4:p.kwonlyargs=d)(h5:p.kw_defaults=c)(h6:p.kwarg=e)(h7:p.defaults=f):p=⟨g,a,b,d,c,e,f⟩:=by
 cases p;subst h1 h2 h3 h4 h5 h6 h7;rfl
theorem uO{p:Arguments}(h:RQ p=true):p=⟨[],[],none,[],[],none,[]⟩:=by
 unfold RQ at h;simp only [Bool.and_eq_true,List.isEmpty_iff,Option.isNone_iff_eq_none] at h;obtain x02|Dw|h7:=h;obtain x02|Dx|h6:=Dw;obtain x02|Dy|h5:=Dx;obtain ⟨⟨⟨h1,h2⟩,h3⟩,h4⟩:=Dy;exact UK h1 h2 h3 h4 h5 h6 h7
section
variable {U:Lev} {Y0:List Addr} {F:Fns} {J:Ev} {s:S} {r:Shared}
theorem RN(env:Env):∀ (ns:List (Str×NameKind)) {acc cells:List (Str×Nat)} {accR:List (Str×Addr)} {s s':S},CellsR Y J.cells env.cells->CellsR Y acc accR->MB J ns acc s=some (.ok cells,s')->
  s'=s/\∃ clos,CellsR Y cells clos/\(forIn ns accR λ(p:Str×NameKind) (cs:List (Str×Addr))=>(do if p.2== .free then let c<-cellOf env p.1;pure (ForInStep.yield ((p.1,c)::cs)) else pure (ForInStep.yield cs):Sem (ForInStep (List (Str×Addr)))))=(pure clos:Sem _):=by
 intro ns
 induction ns with
 | nil=>
  intro acc cells accR s s' _ ha h;cases h;exact ⟨rfl,accR,ha,by exact rfl⟩
 | cons z0 ns ih=>
  intro acc cells accR s s' hc ha h;obtain ⟨x,k⟩:=z0;rw [UM] at h;by_cases hk:k= .free
  ·rw [aN hk] at h;obtain x22|n|s1|h1|h2:=tD h;obtain x02|e1|rfl:=JW h1;obtain x12|a|ea|eYj:=hc.look e1;obtain x02|rfl|Dv:=ih (acc:=(x,n)::acc) (accR:=(x,a)::accR) hc (i03 rfl eYj ha) h2;obtain x12|clos|De|q:=Dv;refine ⟨rfl,clos,De,?_⟩;rw [fJ];have:cellOf env x=pure a:=by unfold cellOf;rw [ea]
   simp only [hk,beq_self_eq_true,if_true,this,pure_bind];exact q
  ·rw [aJ hk] at h;obtain x02|rfl|Du:=ih (acc:=acc) (accR:=accR) hc ha h;obtain x12|clos|De|q:=Du;refine ⟨rfl,clos,De,?_⟩;rw [fJ];have:(k==NameKind.free)=false:=by simpa using hk
   simp only [this,Bool.false_eq_true,if_false,pure_bind];exact q
theorem VM{scope:Scope}{cells:List (Str×Nat)}{s s':S}(hc:CellsR Y J.cells env.cells)(h:MB J scope.names [] s=some (.ok cells,s')):
  s'=s/\∃ clos,CellsR Y cells clos/\closureFor scope env=pure clos:=by
 obtain x02|a|Dt:=RN env scope.names (acc:= []) (accR:= []) hc trivial h;obtain x12|clos|b|q:=Dt;refine ⟨a,clos,b,?_⟩;unfold closureFor;rw [<-q];simp
theorem CT{cs:List (Addr×Addr×Str)}{xs:List (Addr×Obj)}{c P c':Addr}{q:Str}{ps:Array Value}{pos:Pos}{oc:Obj}(t:IU cs xs)(one:∀ p∈cs,∀ q∈cs,p.2.1=q.2.1->p=q)(hm:(c,P,q)∈cs)(hP:(P,tabObj ps)∈xs)(hu:∀ o,(P,o)∈xs->o=tabObj ps)
  (tri:TriplesOk ps.toList) (am:∀ pos cv,codeAmong pos ps.toList=some cv->∃ c',cv= .ref c'/\nI xs c' q) (hq:∃ vs t,oc.data= .fields vs/\vs[1]? =some (.str q t)):
  let xs':=(P,tabObj (ps++ #[rawInt pos.line,rawInt pos.col,.ref c']))::(c',oc)::xs.filter (λp=>p.1 !=P)
  IU cs xs'/\∀ c q,nI xs c q->nI xs' c q:=by
 intro xs';have sY:∀ c q,nI xs c q->nI xs' c q:=by
  rintro c1 q1 ⟨oc1,vs1,t1,m1,d1,e1⟩;refine i33 oc1 vs1 t1 (.tail _ (.tail _ (cN.mpr ⟨m1,?_⟩))) d1 e1;by_cases h:c1=P
  ·subst h;have:=hu oc1 m1;subst this;cases d1;rw [<-fU] at e1;obtain x21|a|u|z:=GM tri e1;cases z
  ·simpa using h
 refine ⟨λp hp=>?_,sY⟩;obtain x13|ps1|m1|t1|a1:=t p hp;by_cases h:p.2.1=P
 ·have:=one p hp (c,P,q) hm h;subst this;refine i13 (ps++ #[rawInt pos.line,rawInt pos.col,.ref c']) (.head _) ?_ λpos1 cv h1=>?_
  ·rw [gN];exact nL tri
  ·rw [gN] at h1;rcases JN tri h1 with h2 | rfl
   ·obtain x12|c2|rfl|h3:=am pos1 cv h2;exact i12 c2 rfl (sY _ _ h3)
   ·obtain x22|vs|tq|d|e:=hq;exact i12 c' rfl ⟨oc,vs,tq,.tail _ (.head _),d,e⟩
 ·refine i13 ps1 (.tail _ (.tail _ (cN.mpr ⟨m1,by simpa using h⟩))) t1 λpos1 cv h1=>?_;obtain x12|c2|rfl|h3:=a1 pos1 cv h1;exact i12 c2 rfl (sY _ _ h3)
theorem mO{q q':Str}{b b':Expr}{sc sc':Scope}{cl cl':List (Str×Addr)}{pm pm':Value}{c c':Addr}{ct ct':Value}(h:JI q b sc cl pm c ct=JI q' b' sc' cl' pm' c' ct'):q=q'/\c=c':=by
 have:=aU (λo:Obj=>match o.data with | .func f=>(f.qualname,f.code) | _=>(q,Value.none)) h;simp only [Prod.mk.injEq,Value.ref.injEq] at this;exact this
theorem St.lamAlloc{G:Ground}{C:Addr}{kp:Kept}{s:S}{r:Shared}(x:St G C kp Y s r){h':Heap}{P c':Addr}{xs xs':List (Addr×Obj)}{q:Str}{body:Expr}{scope:Scope}{clos:List (Str×Addr)}{cells:List (Str×Nat)}{pm ctv:Value}
  (hP:∀ n,Live s n->Y[n]? ≠some P) (hPC:P≠C) (hPk:∀ p∈kp,p.1≠P) (hPG:G.base.get? P=none) (hs:Heap.ExtBut P r.heap h') (Af:r.heap.objs.size<=h'.objs.size) (tb:G.tabs xs') (lm:CG Y s.h r.heap xs) (hin:∀ c q,nI xs c q->nI xs' c q)
  (hx:∀ q∈xs',h'.get? q.1=some q.2/\q.1≠C/\(∀ p∈kp,p.1≠q.1)/\G.base.get? q.1=none/\∀ n,Live s n->Y[n]? ≠some q.1) (hc:nI xs' c' q) (De:CellsR Y cells clos):
  St G C kp (Y++ [h'.objs.size]) {s with h:=s.h++ [.lam body scope cells]} {r with heap:=h'.push (JI q body scope clos pm c' ctv),toks:=tk}:=by
 have lm':CG Y s.h h' xs':=λn body scope cells a ob ea eYj g=>by
  obtain x02|Ds|u_:=x.objs n _ a ea (ndd rfl) eYj;obtain x12|ob0|g0|u_:=Ds;have:a≠P:=λz=>hP n ⟨_,ea,by exact ndd rfl⟩ (z▸eYj);rw [hs a ob0 this g0] at g;cases g;exact λq1 b1 s1 cl1 pm1 c1 ct1 e1=>hin _ _ (lm n body scope cells a _ ea eYj g0 q1 b1 s1 cl1 pm1 c1 ct1 e1)
 have x1:St G C kp Y s {r with heap:=h',toks:=tk}:=by
  refine {base:=λb o e=>hs b o (λz=>by rw [z,hPG] at e;cases e) (x.base b o e),ns:=?_,kept:=λq hq=>⟨(x.kept q hq).1.extBut hs (hPk q hq),(x.kept q hq).2⟩,low:=x.low,len:=x.len,objs:=?_,inj:=x.inj,fresh:=x.fresh,more:=i13 xs' tb hx lm',gens:=x.gens,os:=x.os}
  ·obtain x12|m|a|b:=x.ns;exact i12 m (a.extBut hs (Ne.symm hPC)) b
  ·intro n o a e hd ea;obtain x02|Dr|t:=x.objs n o a e hd ea;obtain x12|ob|p|q:=Dr;exact ⟨i12 ob (hs a ob (λz=>hP n (i12 o e hd) (z▸ea)) p) q,t⟩
 have x2:=x1.keeps (h':=h'.push (JI q body scope clos pm c' ctv)) (tk:=tk) (d:=r.drawn) λb o e=>aM _ e;refine x1.allocCore x2 Heap.fresh_none (bC _ rfl) (i52 q clos pm c' ctv rfl (De.mono (Ext.one _ _))) (aV (aT x.big Af)) ?_;refine i14 xs' tb (λp hp=>let ⟨a,b⟩:=hx p hp;i03 a (aM _ a) b) ?_ λZ=>?_
 ·exact x1.lams lm' λa ob Z g=>aM _ g
 ·intro q1 b1 s1 cl1 pm1 c1 ct1 e1;obtain x02|rfl|rfl:=mO e1;exact hc
theorem AI:∀ {ns:List (Str×NameKind)} {acc:List (Str×Nat)} {s:S} {C:Addr} {s':S},MB J ns acc s≠some (.exc C,s'):=by
 intro ns
 induction ns with
 | nil=>intro acc s C s' h;cases h
 | cons q ns ih=>
  intro acc s C s' h;obtain ⟨x,k⟩:=q;rw [UM] at h;by_cases hk:k= .free
  ·rw [aN hk] at h;rcases VG h with h | ⟨a,s1,h1,h2⟩
   ·unfold iG DX at h;cases hx:J.cells.lookup x <;> rw [hx] at h <;> cases h
   ·exact ih h2
  ·rw [aJ hk] at h;exact ih h
variable (W:Wd U.G K) (So:Sound U.prog U.G F) (e:EvR U Y0 J)
include W e
theorem sX(args:Arguments)(body:Expr)(scope:Scope)(pos:Pos):Sim U Y0 VR (lamE args body scope J) (eval (.Lambda args body scope pos) U.env):=by
 unfold lamE;refine Sim.need λhn=>?_;rw [uO hn]
 ·refine Sim.need λhl=>Sim.of_at λY s r ex st=>⟨λQ E pe nn ok exc=>kla_eval rfl ?_⟩;obtain x11|Dq|hl:=eI.mp hl;obtain ⟨c,P,q⟩:=Dq;obtain x03|zY|Aa|hmem:=e.lq _ hl;dsimp only at zY Aa;cases hc:MB J scope.names [] s with
  | none=>exact aS (QA hc) nn
  | some p=>
  obtain ⟨res,s1⟩:=p
  induction res with
  | exc C=>exact aS hc AI
  | ok cells=>
  obtain x02|rfl|Dp:=VM ((e.mono ex).cells) hc;obtain x12|clos|De|hclos:=Dp;have run:(MB J scope.names [] >>=λcells=>FX (.lam body scope cells) >>=λn=>Pure.pure (V.ref n)) s1=some (.ok (V.ref s1.h.length),{s1 with h:=s1.h++ [.lam body scope cells]}):=by rw [nA hc];rfl
  obtain x51|p|loose|nY|mg|mb|T:=W.T;obtain x13|xs|tb|hx|lm:=st.more;obtain x13|ps|hPm|tri|am:=tb _ hmem;dsimp only at hPm am;have hP:=hx _ hPm;have C:=(W.codes _ hmem).keeps st.base;have hgs:=T.g.keeps st.base;obtain x24|bm|ob|b1|b2|b3|Do:=T.bmain;obtain x03|b4|b5|b6:=Do;have hgP:mainGlobals≠P:=λz=>by
   obtain x33|o|es|ep|e|hd|u_:=hgs;rw [z,hP.1] at e;cases e;cases hd
  have hbP:bm≠P:=λz=>by
   have e:=st.base _ _ b3;rw [z,hP.1] at e;cases e;cases b4
  have hbG:bm≠mainGlobals:=λz=>by
   obtain x33|o|es|ep|e|hd|u_:=T.g;rw [z,e] at b3;cases b3;rw [hd] at b6;cases b6
  have hB:r.heap.BuiltinsAt mg P:=⟨bm,ob,b1,b2,hbG,hbP,st.base _ _ b3,b4,b5,b6⟩;have hPn:=hP.2.2.2.2;cases hf:codeAmong pos ps.toList with
  | some cv=>
   obtain x12|c'|rfl|hce:=am pos cv hf;refine kla_makeFunctionHit hclos e.glob hgs zY C hP.1 tri hf hB λctv h' tk k1 Af=>?_;refine ok _ _ run (Y++ [h'.objs.size]) _ _ (Ext.one _ _) ?_ (i12 _ (by rw [<-st.len];simp) rfl);rw [Aa];exact st.lamAlloc hPn hP.2.1 hP.2.2.1 hP.2.2.2.1 (λb o Z g=>k1 b o g) Af tb lm (λZ Z h=>h) (λq hq=>⟨k1 _ _ (hx q hq).1,(hx q hq).2⟩) hce De
  | none=>
   refine kla_makeFunction hclos e.glob hgs zY C hP.1 tri hf hgP hB λc' ctv h' tk hs hge hlt hrec htb=>?_;refine ok _ _ run (Y++ [h'.objs.size]) _ _ (Ext.one _ _) ?_ (i12 _ (by rw [<-st.len];simp) rfl);rw [Aa] at hrec ⊢;obtain x42|c2|oc|vs|tq|e2|Dn:=hrec;obtain x03|hoc|hd|hv:=Dn;cases e2;obtain x02|tb'|hin:=CT (c':=c') (oc:=oc) (pos:=pos) tb W.one hmem hPm (λo ho=>Option.some.inj ((hx _ ho).1.symm.trans hP.1)) tri am (i22 vs tq hd hv);have fresh:∀ {b o},r.heap.get? b=some o->b≠c':=λg z=>cB.mpr hge (z▸cP g);refine st.lamAlloc hPn hP.2.1 hP.2.2.1 hP.2.2.2.1 hs (cC (bF hge hlt)) tb' lm hin ?_ (i33 oc vs tq (.tail _ (.head _)) hd hv) De;intro p hp;rcases aZ.mp hp with rfl | hp
   ·exact ⟨htb,hP.2⟩
   ·rcases aZ.mp hp with rfl | hp
    ·obtain x11|oC|eC:=st.ns_some;refine i05 hoc (fresh eC).symm (λp hp=>let ⟨o,eo⟩:=st.kept_some hp;fresh eo) ?_ λn ln en=>?_
     ·cases z:U.G.base.get? c' with
      | none=>rfl
      | some o=>exact aS rfl (fresh (st.base _ _ z))
     ·obtain x12|o|eo|dd:=ln;obtain x12|ob|g|u_:=st.at eo dd en;exact aS rfl (fresh g)
    ·obtain x02|hp|hne:=cN.mp hp;have hne:p.1≠P:=by simpa using hne
     exact ⟨hs _ _ hne (hx _ hp).1,(hx _ hp).2⟩
end
end
section
open PyProof.Rows.LSm
section
variable {s:Shared}
theorem TP{it l:Addr}{items:Array Value}(hne:l≠it):∀ (n i:Nat) (s:Shared) (Q:List Value->Shared->Prop),s.heap.IsListIter it l i->s.heap.IsList l items->i+n<=items.size->
  (∀ h',h'.IsListIter it l (i+n)->Heap.SameBut it s.heap h'->Q ((items.toList.drop i).take n) {s with heap:=h'})->wpAny (model prog w) A (draw (.ref it) n) Q E s:=by
 intro n
 induction n with
 | zero=>
  intro i s Q hit _ _ hQ;show wpAny _ _ (pure []) Q E s;exact aG (by simpa using hQ s.heap hit (Heap.SameBut.refl ..))
 | succ n ih=>
  intro i s Q hit ht Ar hQ;have hlt:i < items.size:=n6 Ar;show wpAny _ _ (pyNext (.ref it) >>=_) Q E s;refine aA (wpAny_pyNext_list_item hit ht (x:=items[i]) (by simp [hlt]) λh₁ hit₁ hs₁=>?_);have ht1:h₁.IsList l items:=by obtain x13|o|a|b|c:=ht;exact i13 o (hs₁.extBut l o hne a) b c
  refine aA (bT (ih (i+1) _ _ hit₁ ht1 (n5 Ar) λh₂ hit₂ hs₂=>aG ?_));have hd:items.toList.drop i=items[i]::items.toList.drop (i+1):=by simp [List.drop_eq_getElem_cons,hlt]
  have:=hQ h₂ (by rw [fK n 1,<-fL];exact hit₂) (hs₁.trans hs₂);rw [hd,List.take_succ_cons] at this;exact this
theorem UG{t:Addr}{items:Array Value}{Q:List Value->Shared->Prop}(hh:A.handled=none)(ht:s.heap.IsList t items)
  (hQ:∀ h',Heap.ExtBut s.heap.objs.size s.heap h'->Q items.toList {s with heap:=h'}):wpAny (model prog w) A (unpackItems (.ref t) items.size none) Q E s:=by
 have hlt:t≠s.heap.objs.size:=by obtain x12|o|ho|u_:=ht;exact bG (cP ho)
 unfold unpackItems;refine aA ?_;unfold notIterableAtAll;refine aA (dW ht.typeIs PySem.slot_list_iter.lookup ?_);refine aG ?_;rw [aJ aW];refine aA (bT (wpAny_pyIter_list ht ?_));have ht0:(s.heap.push {cls:= .type "list_iterator",data:= .fields #[.ref t,.int 0 0]}).IsList t items:=by obtain x12|o|a|b:=ht;exact i12 o (aM _ a) b
 refine aA (bT (TP hlt items.size 0 _ _ (i13 _ (bC _ rfl) rfl rfl) ht0 (bV (cW _)) λh₁ hit₁ hs₁=>?_));have hall:List.take items.size (List.drop 0 items.toList)=items.toList:=by
  rw [hM];exact eE (by simp)
 rw [hall];rw [aJ (by simp)];have ht₁:h₁.IsList t items:=by obtain x12|o|a|b:=ht0;exact i12 o (hs₁.extBut t o hlt a) b
 refine aA (bT (wpAny_pyNext_list_end hh hit₁ ht₁ (by simp) λh₂ he₂=>?_));simp only [Option.isSome_none,Bool.false_eq_true,if_false];exact aG (hQ h₂ λb o hb e=>he₂ b o hb (hs₁.extBut b o hb (aM _ e)))
end
abbrev QC{α β:Type}(_:List Addr)(_:α)(_:β):Prop:=True
section
variable {U:Lev} {Y0:List Addr} {F:Fns} {J:Ev} {s:S} {r:Shared}
theorem At.holdBind{β γ:Type}{R:List Addr->α->β->Prop}{m:M α}{vs:List Value}{t:Sem γ}{f:γ->Sem β}(h:At U Y s r R m (t >>=f)):At U Y s r R m (PySem.holding vs t >>=f):=
 ⟨λQ E pe nn ok exc=>by
  have:=h.go Q E pe nn ok exc;intro Γ p hΓ;have h2:=this Γ p hΓ;rw [Sem.wp_bind'] at h2 ⊢;rw [Sem.wp_holding];exact h2⟩
theorem At.items{β:Type}{R:List Addr->α->β->Prop}(hh:U.A.handled=none){y:Value}{b:List V->Bool}{f:List V->M α}{g:List Value->Sem β}(st:StL U Y s r)(hv:VR Y v y)(hb:∀ vs,b vs=true->vs.length=n)
  (k:∀ vs l r',VsR Y vs l->vs.length=n->StL U Y s r'->At U Y s r' R (f vs) (g l)):At U Y s r R (QD v >>=λvs=>BX (b vs) >>=λZ=>f vs) (unpackItems y n none >>=g):=by
 induction v with
 | ref m=>
  obtain x12|a|ea|rfl:=hv;refine ⟨λQ E pe nn ok exc=>?_⟩;cases ho:s.h[m]? with
  | none=>exact aS (QA (show (CX m >>=_) s=none from QA (by unfold CX;rw [ho]))) nn
  | some o=>
  have sY:∀ {vs:List V} {l:List Value},QD (.ref m) s=some (.ok vs,s)->VsR Y vs l->(l.length=n->∀ (Q:List Value->Shared->Prop),(∀ h',Heap.ExtBut r.heap.objs.size r.heap h'->Q l {r with heap:=h'})->wpAny (model U.prog U.G.w) U.A (unpackItems (.ref a) n none) Q E r)->wpAny (model U.prog U.G.w) U.A (unpackItems (.ref a) n none >>=g) Q E r:=by
   intro vs l hi hl un;have e1:∀ f':List V->M α,(QD (.ref m) >>=f') s=f' vs s:=λf'=>nA hi;rw [e1] at nn ok exc;cases hbv:b vs with
   | false=>rw [hbv] at nn;exact aS rfl nn
   | true=>
   rw [hbv] at nn ok exc;have hn:=hb vs hbv;refine aA (un (hl.length▸hn) _ λh' hs'=>?_);exact (k vs l _ hl hn (st.keeps (tk:=r.toks) (d:=r.drawn) λb o e=>hs' b o (bG (cP e)) e)).go Q E pe nn ok exc
  have run:QD (.ref m) s=(match o with | .list vs=>Pure.pure vs | .tup vs=>Pure.pure vs | _=>EX:M (List V)) s:=by
   show (CX m >>=_) s=_;rw [nA (a:=o) (s₁:=s) (by unfold CX;rw [ho])]
   induction o <;> rfl
  induction o with
  | list vs=>
   obtain x13|ob|g1|Dp|Dq:=st.at ho (ndd rfl) ea;obtain x02|c1|z1:=Dp;obtain x22|xs|n1|d1|r1:=Dq;exact sY run r1 λhn Q hQ=>by subst hn;exact UG (items:=xs.toArray) hh (i13 ob g1 c1 ⟨n1,d1⟩) hQ
  | tup vs=>
   obtain x13|ob|g1|c1|Do:=st.at ho (ndd rfl) ea;obtain x22|xs|n1|d1|r1:=Do;exact sY run r1 λhn Q hQ=>by subst hn;exact unpackItems_tuple (items:=xs.toArray) hh (i13 ob g1 c1 ⟨n1,d1⟩) hQ
  | _=>exact aS (QA run) nn
 | _=>exact At.no rfl
theorem EN(hs:U.env.scope=J.scope)(hkd:J.scope.kind= .function)(hc:CellsR Y0 J.cells U.env.cells)(x:Str){y:Value}(hv:VR Y0 v y):Sim U Y0 QC (NB J x v) (storeName U.env x y):=by
 refine Sim.of_at λY s r ex st=>?_;have hv:=hv.mono ex;have hk:U.env.scope.kind= .function:=by rw [hs];exact hkd
 unfold NB;cases hx:J.scope.names.lookup x with
 | none=>exact At.fail
 | some nk=>
 induction nk with
 | «local»=>
  have hx':U.env.kindOf x=some .local:=by unfold Env.kindOf;rw [hs];exact hx
  obtain x12|m|hm|hr:=st.ns;refine At.done (a:=()) (s':={s with l:=putA x v s.l}) rfl λQ E k=>wpAny_storeName_local hx' hm (λh' hn hs=>k Y () _ (Ext.refl Y) (st.loc hv hs.extBut hm hn) trivial) ?_;rw [hk];rfl
 | cell=>
  have hx':U.env.kindOf x=some .cell:=by unfold Env.kindOf;rw [hs];exact hx
  unfold iG;refine At.opt λn hn=>At.geto λo ho=>?_;obtain x12|c|De|hYj:=(hc.mono ex).look hn
  induction o with
  | cell w0=>
   obtain x12|ob|g|Dn:=st.at ho (ndd rfl) hYj;obtain x12|w|d|hr:=Dn;have hlen:=(aQ.mp ho).1;refine At.done (a:=()) (s':={s with h:=s.h.set n (.cell (some v))}) (by show GX n _ s=_;unfold GX;rw [aN hlen]) λQ E k=>wpAny_storeName_cell hk hx' De (i12 ob g d) λh' hc hs=>?_;obtain x12|ob'|g'|d':=hc;exact k Y () _ (Ext.refl Y) (st.upd (tk:=r.toks) ho (ndd rfl) hYj (λb o hb e=>hs.extBut b o hb e) (.inr (i12 ob' g' ⟨some y,d',hv⟩))) trivial
  | _=>exact At.fail
 | _=>exact At.fail
theorem DR(e:EvR U Y0 J)(x:Str){y:Value}(hv:VR Y0 v y):Sim U Y0 QC (NB J x v) (bindName U.env x y):=
 ⟨λY s r Q E ex st pe nn ok exc=>wpAny_bindName ((EN e.scope e.kind e.cells x hv).run Y s r Q E ex st pe nn ok exc)⟩
theorem Sim.bindTail{β γ:Type}{R:List Addr->α->Unit->Prop}{m:M α}{t:Sem β}{f:β->Sem γ}{g:β->γ->Sem Unit}(h:Sim U Y0 R m (t >>=λb=>f b >>=λZ=>Pure.pure ()))(hg:∀ b c {A:Around} {E:Value->Shared->Prop} {s:Shared} {Q:Unit->Shared->Prop},Q () s->wpAny (model U.prog U.G.w) A (g b c) Q E s):
  Sim U Y0 R m (t >>=λb=>f b >>=g b):=by
 refine ⟨λY s r Q E x st pe nn ok exc=>?_⟩;have:=h.run Y s r Q E x st pe nn ok exc;intro Γ p hΓ;have h2:=this Γ p hΓ;rw [Sem.wp_bind'] at h2 ⊢;refine Sem.wp_mono _ _ _ ?_ (λZ Z Z h=>h) _ _ h2;intro b p' s' h3;rw [Sem.wp_bind'] at h3 ⊢;refine Sem.wp_mono _ _ _ ?_ (λZ Z Z h=>h) _ _ h3;intro c p'' s'' h4;exact hg b c h4 Γ p'' hΓ
theorem Sim.toUnit{R:List Addr->α->Unit->Prop}{m:M α}{t:Sem Unit}(h:Sim U Y0 R m t):Sim U Y0 R m (t >>=λZ=>Pure.pure ()):=Sim.bindPure h
theorem Sim.thenRelease{m:M α}{t:Sem Unit}{vs ks:List Value}(h:Sim U Y0 QC m t):Sim U Y0 QC m (t >>=λZ=>PySem.release vs ks):=
 ⟨λY s r Q E x st pe nn ok exc=>aA (h.run Y s r _ E x st pe nn (λa s' e Y' b r' x' st' hr=>wpAny_release (ok a s' e Y' () r' x' st' trivial)) exc)⟩
theorem yK{t:Expr}{r:List Expr}(h:WA t=true):assignEach (t::r) env=(false,assign t env)::assignEach r env:=by induction t using eCq <;> first | rfl | exact aS h aW
theorem VN:∀ {pY:List Expr},pY.all WA=true->(assignEach pY env).findIdx? (·.1)=none/\(assignEach pY env).map (·.2)=pY.map (λt=>assign t env)/\(assignEach pY env).length=pY.length:=by
 intro pY
 induction pY with
 | nil=>intro _;exact i03 rfl rfl rfl
 | cons t r ih=>
  intro h;rw [gS,bY] at h;obtain x03|a|b|c:=ih h.2;rw [yK h.1];refine ⟨by simp [List.findIdx?_cons,a],by simp [b],by simp [c]⟩
section
variable (W:Wd U.G K) (So:Sound U.prog U.G F) (e:EvR U Y0 J)
include W So e
omit W in
theorem nJ(o i:Expr)(pos:Pos){y:Value}(ex:Ext Y0 Y)(hv:VR Y v y):Sim U Y QC (F.ev o J >>=λov=>F.ev i J >>=λiv=>sD ov iv v) (assign (.Subscript o i pos) U.env y):=by
 rw [arm_assign_Subscript];exact Sim.bind (Sim.holding (BB So e o ex)) λY1 a x Ak ha=>Sim.bind (Sim.holding (BB So e i (ex.trans Ak))) λY2 b z Ap hb=>Sim.at (Sim.thenRelease (Sim.holding (sR (ha.mono Ap) hb ((hv.mono Ak).mono Ap))))
omit W in
theorem vL(o:Expr)(lo hi:Option Expr)(p pos:Pos){y:Value}(ex:Ext Y0 Y)(hv:VR Y v y):Sim U Y QC (F.ev o J >>=λov=>optE F lo J >>=λl=>optE F hi J >>=λu=>ZE ov l u v) (assign (.Subscript o (.Slice lo hi none p) pos) U.env y):=by
 rw [arm_assign_Subscript];show Sim U Y QC _ (PySem.holding [y] (eval o U.env) >>=λov=>PySem.holding [y,ov] (valueOrNone (evalOpt lo U.env) >>=λl=>PySem.holding [l] (valueOrNone (evalOpt hi U.env)) >>=λu=>PySem.holding [l,u] (valueOrNone (evalOpt none U.env)) >>=λs=>newFields "slice" [l,u,s]) >>=λiv=>standAt pos >>=λZ=>PySem.holding [y,ov,iv] (setItem ov iv y) >>=λZ=>PySem.release [iv,y,ov] []);refine Sim.bind (Sim.holding (BB So e o ex)) λY1 a x Ak ha=>Sim.holdBind (Sim.assoc ?_);refine Sim.bind (QK So e lo (ex.trans Ak)) λY2 l b Ap hl=>Sim.assoc (Sim.holdBind ?_);refine Sim.bind (QK So e hi ((ex.trans Ak).trans Ap)) λY3 u z Av hu=>Sim.assoc (Sim.holdBind ?_);show Sim U Y3 QC _ (newFields "slice" [b,z,Value.none] >>=λiv=>standAt pos >>=λZ=>PySem.holding [y,x,iv] (setItem x iv y) >>=λZ=>PySem.release [iv,y,x] []);have h:=sT (U:=U) (pos:=pos) (hs:=λiv=> [y,x,iv]) ((ha.mono Ap).mono Av) (hl.mono Av) hu (((hv.mono Ak).mono Ap).mono Av);have h2:Sim U Y3 QC (ZE a l u v) (newFields "slice" [b,z,Value.none] >>=λiv=>(standAt pos >>=λZ=>PySem.holding [y,x,iv] (setItem x iv y)) >>=λZ=>Pure.pure ()):=by
  have h2:=Sim.toUnit h;simpa only [LawfulMonad.bind_assoc] using h2
 have:=Sim.bindTail (g:=λiv Z=>PySem.release [iv,y,x] []) h2 (λZ Z {Z Z Z Z} q=>wpAny_release q);simpa only [LawfulMonad.bind_assoc] using this
theorem rK(t:Expr){y:Value}(ex:Ext Y0 Y)(hv:VR Y v y):Sim U Y QC (rF K F t J v) (assign t U.env y):=by
 unfold rF;cases h1:lE t with
 | some x=>exact XB (m:=λt=>Sim U Y QC (NB J x.1 v) (assign t U.env y)) h1 (by rw [arm_assign_Name];exact Sim.at (DR (e.mono ex) x.1 hv))
 | none=>
  dsimp only;cases h2:xF t with
  | some x=>exact yE (m:=λt=>Sim U Y QC (F.ev x.1 J >>=λov=>GE K ov x.2.1 v) (assign t U.env y)) h2 (by rw [arm_assign_Attribute];exact Sim.bind (Sim.holding (BB So e x.1 ex)) λY1 a z Ak ha=>Sim.at (Sim.thenRelease (Sim.holding (rR W ha (hv.mono Ak) x.2.1))))
  | none=>
   dsimp only;cases h3:jQ t with
   | none=>exact Sim.fail
   | some x=>
    refine zK (m:=λt=>Sim U Y QC (YD F x.1 x.2.1 J v) (assign t U.env y)) h3 ?_;refine genI x.1 ?_;intro o;refine genI x.2.1 ?_;intro i;refine genI x.2.2 ?_;intro pos;unfold YD;cases hs:vC i with
    | none=>exact nJ So e _ _ _ ex hv
    | some q=>
     obtain ⟨⟨lo,hi,st⟩,p⟩:=q
     induction st with
     | some x=>exact Sim.fail
     | none=>exact uH (m:=λi=>Sim U Y QC (F.ev o J >>=λov=>optE F lo J >>=λl=>optE F hi J >>=λu=>ZE ov l u v) (assign (.Subscript o i pos) U.env y)) hs (vL So e _ _ _ _ _ ex hv)
theorem AP(ts:List Expr):∀ {Y:List Addr} {vs:List V} {ys:List Value},Ext Y0 Y->VsR Y vs ys->Sim U Y QC (CC K F ts J vs) (assignInOrder (ts.map λt=>assign t U.env) ys):=by
 induction ts with
 | nil=>
  intro Y vs ys ex h
  induction vs using lCq with
  | nil=>induction ys using lCq with
   | nil=>exact Sim.pure λZ Z=>trivial
   | cons=>exact h.elim
  | cons=>exact Sim.fail
 | cons t ts ih=>
  intro Y vs ys ex h
  induction vs using lCq with
  | nil=>exact Sim.fail
  | cons v vs=>induction ys using lCq with
   | nil=>exact h.elim
   | cons y ys=>
    show Sim U Y QC (rF K F t J v >>=λZ=>CC K F ts J vs) (PySem.holding ys (assign t U.env y) >>=λZ=>assignInOrder (ts.map λt=>assign t U.env) ys);exact Sim.bind (Sim.holding (rK W So e t ex h.1)) λY1 Z Z Ak Z=>ih (ex.trans Ak) (h.2.mono Ak)
theorem oJ(t:Expr){y:Value}(ex:Ext Y0 Y)(hv:VR Y v y):Sim U Y QC (sB K F t J v) (assign t U.env y):=by
 unfold sB;cases hx:vD t with
 | none=>exact rK W So e _ ex hv
 | some p=>
  obtain ⟨pY,k,pos⟩:=p;refine VE (m:=λt=>Sim U Y QC (BX (pY.all WA) >>=λZ=>QD v >>=λvs=>BX (decide (vs.length=pY.length)) >>=λZ=>CC K F pY J vs) (assign t U.env y)) hx (Sim.need λhn=>?_);rw [arm_assign_Tuple];unfold unpack;refine Sim.at (Sim.of_at λY1 s r Ak st=>?_);obtain x03|p1|p2|p3:=VN (env:=U.env) hn;rw [p1,p2,p3];refine At.holdBind (At.items e.a.handled st (hv.mono Ak) (λvs h=>aX h) λvs l r' hl hlen st'=>?_);exact At.of (AP W So e pY (ex.trans Ak) hl) (Ext.refl _) st'
end
end
end
section
open PyProof.Rows.LSm
def isIt:O->Prop
 | .itL .. | .itT .. | .itD .. | .itR .. | .itS .. | .itE ..=>True
 | _=>False
theorem HG:∀ {i:Expr} {env:Env} {x:Value},EB i=true->foldedSetIterable i env x=Pure.pure x:=λ{i} Z Z h=>by induction i using eCq <;> first | rfl | exact aS h aW
section
variable {U:Lev} {Y0:List Addr} {F:Fns} {J:Ev} {s s':S} {r:Shared}
theorem Sim.okRun{β:Type}{R:List Addr->α->β->Prop}{m:M α}{t:Sem β}{a:α}(h:Sim U Y0 R m t)(x:Ext Y0 Y)(st:StL U Y s r)(hm:m s=some (.ok a,s')){Q:β->Shared->Prop}
  (k:∀ Y' b r',Ext Y Y'->StL U Y' s' r'->R Y' a b->Q b r'):wpAny (model U.prog U.G.w) U.A t Q (λZ Z=>False) r:=
 h.run Y s r Q _ x st PassesOwn.never (by rw [hm];exact Option.some_ne_none _) (λa' s2 e Y' b r' x' st' hr=>by rw [hm] at e;cases e;exact k Y' b r' x' st' hr) (λc s2 e=>by rw [hm] at e;cases e)
theorem UQ{t:Expr}{x y:Value}(h:vD t=none)(h2:QJ t=true):letOwnedTupleGo t x y=Pure.pure ():=by
 induction t using eCq <;> first | rfl | exact aS h2 aW | exact nos h.symm
theorem YS{pY:List Expr}{x1:Nat}{pos:Pos}{I l:Addr}{i:Nat}{y:Value}{Q:Unit->Shared->Prop}(hit:r.heap.IsListIter I l i)(q:Q () r):wpAny (model prog w) A (letOwnedTupleGo (.Tuple pY x1 pos) (.ref I) y) Q E r:=by
 induction y with
 | ref T=>exact wpAny_letOwnedTupleGo_listiter hit q
 | _=>exact aG q
theorem wU{t:Expr}{it:Nat}{y:Value}{u:Unit}(st:StL U Y s r)(ea:Y[it]? =some a)(hy:VR Y v y)(h:ownM t it v s=some (.ok u,s')):
  ∀ {A:Around} {Q:Unit->Shared->Prop} {E:Value->Shared->Prop},(∀ r',StL U Y s' r'->Q () r')->wpAny (model U.prog U.G.w) A (letOwnedTupleGo t (.ref a) y) Q E r:=by
 unfold ownM at h;cases hx:vD t with
 | none=>
  rw [hx] at h;intro A Q E q;obtain x02|h1|rfl:=QQ h;rw [UQ hx h1];exact aG (q _ st)
 | some p=>
  rw [hx] at h;refine VE (m:=λt=>∀ {A:Around} {Q:Unit->Shared->Prop} {E:Value->Shared->Prop},(∀ r',StL U Y s' r'->Q () r')->wpAny (model U.prog U.G.w) A (letOwnedTupleGo t (.ref a) y) Q E r) hx λ{A Q E} q=>GD h λo h1 h2=>?_
  induction o with
  | itL l i=>
   cases h2;obtain x13|ob|g|c|Dw:=st.at h1 (ndd rfl) ea;obtain x12|la|el|d:=Dw;exact YS (i13 ob g c d) (q _ st)
  | itE n i w=>induction w with
   | none=>exact nos h2
   | some k=>
    obtain x12|ob|g|Dv:=st.at h1 (ndd rfl) ea;obtain x33|ai|x|own|e1|Dx|rfl:=Dv;obtain x12|b|eb|rfl:=Dx;have hlen:=(aQ.mp h1).1;refine KH h2 λhk h3=>?_;have hv:=aX hk;subst hv;obtain x12|b'|eb'|rfl:=hy;rw [eb] at eb';cases eb';have h3:GX it (.itE n i none) s=some (.ok u,s'):=h3;unfold GX at h3;rw [aN hlen] at h3;cases h3;refine wpAny_letOwnedTupleGo_enum g λh' he' hs'=>q _ ?_;exact st.upd (tk:=r.toks) h1 (ndd rfl) ea (λb ob hb e=>hs'.extBut b ob hb e) (.inr (i12 _ he' ⟨ai,_,_,e1,rfl,rfl⟩))
  | _=>exact nos h2
variable (W:Wd U.G K) (So:Sound U.prog U.G F) (e:EvR U Y0 J)
include So e
theorem ET{Ag:List Expr}{ok:Bool}(ex:Ext Y0 Y)(st:StL U Y s r)(h:RD F J Ag s=some (.ok ok,s')){Q:Bool->Shared->Prop}(k:∀ Y' r',Ext Y Y'->StL U Y' s' r'->Q ok r'):
  wpAny (model U.prog U.G.w) U.A (forIn Ag true λc r=>if r=true then do let ok<-isTrue c U.env (eval c U.env);pure (ForInStep.yield ok) else pure (ForInStep.yield r)) Q (λZ Z=>False) r:=by
 induction Ag using lCq with
 | nil=>cases h;exact wpAny_tests_nil (k Y r (Ext.refl _) st)
 | cons c l=>induction l using lCq with
  | nil=>exact wpAny_tests_one ((XJ So e _ ex).okRun (Ext.refl _) st h λY' b r' x' st' hb=>by induction hb;exact k Y' r' x' st')
  | cons=>exact nos h
include W
theorem co_S{t elt i:Expr}{Ag:List Expr}{sc:Scope}{pos:Pos}{it acc:Nat}{ai aa:Addr}(ei:Y0[it]? =some ai)(ea:Y0[acc]? =some aa):
  SimK U Y0 (coM K F t elt Ag it acc J) (.compLoop (.ListComp elt [⟨t,i,Ag,0⟩] sc pos) 0 (.ref ai) (.ref aa) U.env):=by
 intro Y s s' r R ex st hm ok;unfold coM at hm;obtain x22|o|s1|h1|h2:=tD hm;have ei:=ex.get ei;have ea:=ex.get ea;refine codeAny_of_tree ?_;show wpAny _ U.A ((compTurn (.ListComp elt [⟨t,i,Ag,0⟩] sc pos) 0 (.ref ai) (.ref aa) U.env).onRaise (λx=>do noteFrame x U.env;theTreesLotGoes x)) _ _ r;refine wpAny_noted ((λh=>fG h (λZ Z h=>h) λZ Z h=>h.elim:∀ {α:Type} {t:Sem α} {Q:α->Shared->Prop} {r:Shared} {E:Value->Shared->Prop},wpAny (model U.prog U.G.w) U.A t Q (λZ Z=>False) r->wpAny (model U.prog U.G.w) U.A t Q E r) ?_);rw [compTurn_list];refine aA (dP (aA ((uU e.a.handled ei).okRun (Ext.refl _) st h1 λY1 o' r1 x1 Al ho=>?_)))
 induction o with
 | none=>
  induction o' with
  | some _=>exact ho.elim
  | none=>cases h2;exact aG (ok Y1 r1 x1 Al)
 | some v=>
  induction o' with
  | none=>exact ho.elim
  | some y=>
  obtain x22|u1|s2|h3|h4:=tD h2;have own:=λ{Q E}=>wU Al (x1.get ei) ho h3 (A:=U.A) (Q:=Q) (E:=E);obtain x22|u2|s3|h5|h6:=tD h4;obtain x22|okb|s4|h7|h8:=tD h6;refine aA (own λr1' Al=>(aA ((oJ W So e t (ex.trans x1) ho).okRun (Ext.refl _) Al h5 λY2 Z r2 x2 Aq Z=>aA (ET So e ((ex.trans x1).trans x2) Aq h7 λY3 r3 x3 Bf=>?_))));have x13:=(x1.trans x2).trans x3;have again:∀ {Y4:List Addr} {s5:S} {r4:Shared},Ext Y Y4->StL U Y4 s5 r4->F.co t elt Ag it acc J s5=some (.ok (),s')->codeAny (model U.prog U.G.w) U.A (.compLoop (.ListComp elt [⟨t,i,Ag,0⟩] sc pos) 0 (.ref ai) (.ref aa) U.env) R r4:=λx4 By hco=>
   (So.co U J _ t i elt Ag sc pos it acc ai aa rfl rfl (e.mono (ex.trans x4)) (x4.get ei) (x4.get ea)) _ _ s' _ R (Ext.refl _) By hco λY' r' x'=>ok Y' r' (x4.trans x')
  induction okb with
  | false=>exact aG ⟨rfl,again x13 Bf h8⟩
  | true=>
   obtain x22|x|s5|h9|h10:=tD h8;obtain x22|u3|s6|h11|h12:=tD h10;rw [aN rfl];refine aA (aA ((BB So e elt (ex.trans x13)).okRun (Ext.refl _) Bf h9 λY4 y4 r4 x4 By hy=>aA ((NM (U:=U) (Y0:=Y4) (i12 aa ((x13.trans x4).get ea) rfl) hy).okRun (Ext.refl _) By h11 λY5 Z r5 x5 st5 Z=>aG (aG ⟨rfl,again ((x13.trans x4).trans x5) st5 h12⟩))))
omit So e W in
theorem MS{it:Nat}(h:oE v s=some (.ok it,s')):∃ o,s'.h[it]? =some o/\o≠ .dead/\isIt o:=by
 have new:∀ {o:O} {n:Nat} {s₁ s₂:S},FX o s₁=some (.ok n,s₂)->s₂.h[n]? =some o:=λh=>by
  cases h;simp
 induction v with
 | ref a=>
  refine GD h λo h1 h2=>?_
  induction o with
  | list vs=>exact i13 _ (new h2) (ndd rfl) trivial
  | tup vs=>exact i13 _ (new h2) (ndd rfl) trivial
  | dict es n=>exact KH h2 λZ h4=>i13 _ (new h4) (ndd rfl) trivial
  | rng x b c=>exact KH h2 λZ h4=>i13 _ (new h4) (ndd rfl) trivial
  | itE n i w=>cases h2;exact i13 _ h1 (ndd rfl) trivial
  | _=>exact nos h2
 | str x=>exact i13 _ (new h) (ndd rfl) trivial
 | _=>exact nos h
omit So e W in
theorem qR{it:Nat}(st:StL U Y s r)(ho:s.h[it]? =some o)(ea:Y[it]? =some a)(hd:o≠ .dead)(hk:isIt o){Q:Value->Shared->Prop}(h:Q (.ref a) r):
  wpAny (model U.prog U.G.w) A (pyIter (.ref a)) Q E r:=by
 have t:=st.at ho hd ea
 induction o with
 | itL l i=>obtain x13|ob|g|c|Du:=t;obtain x12|la|el|d:=Du;exact wpAny_pyIter_listiter (i13 ob g c d) h
 | itT l i=>obtain x13|ob|g|c|Dt:=t;obtain x12|la|el|d:=Dt;exact wpAny_pyIter_tupleiter (i13 ob g c d) h
 | itD d i len ep=>obtain x13|ob|g|c|Ds:=t;obtain x12|la|el|d:=Ds;exact wpAny_pyIter_keyiter (i13 ob g c d) h
 | itR x l st=>obtain x12|ob|g|rfl:=t;exact wpAny_pyIter_rangeiter g h
 | itE n i w=>obtain x12|ob|g|Dr:=t;obtain x33|ai|x|own|e1|o1|rfl:=Dr;exact HK g h
 | itS x i=>
  obtain x12|ob|g|Dq:=t;obtain x12|t|c|d:=Dq;cases hx:x.cps.all (· < 128) with
  | true=>rw [show strIterType x="str_ascii_iterator" by unfold strIterType;rw [hx];rfl] at c;exact wpAny_pyIter_striter_ascii (i13 ob g c d) h
  | false=>rw [show strIterType x="str_iterator" by unfold strIterType;rw [hx];rfl] at c;exact wpAny_pyIter_striter_wide (i13 ob g c d) h
 | _=>exact hk.elim
omit So e W in
theorem St.leaveBut{G:Ground}{C L:Addr}{kp:Kept}{m:Str->Option Value}{Y':List Addr}{s':S}{r':Shared}{l:List (Str×V)}{h':Heap}(x:St G L ((C,m)::kp) Y' s' r')(hl:LocR Y' l m)(hk:∀ q∈kp,q.1≠C)(hs:Heap.ExtBut L r'.heap h'):St G C kp Y' {s' with l:=l} {r' with heap:=h'}:=by
 have y:=x.leave hl hk;refine {base:=λb o e=>hs b o (λz=>by rw [z,x.fresh.1] at e;cases e) (x.base b o e),ns:=i12 m ((x.kept (C,m) (.head _)).1.extBut hs (x.kept (C,m) (.head _)).2.1) hl,kept:=λq hq=>⟨(x.kept q (.tail _ hq)).1.extBut hs (x.kept q (.tail _ hq)).2.1,(y.kept q hq).2⟩,low:=y.low,len:=y.len,objs:=?_,inj:=y.inj,fresh:=y.fresh,more:=?_,gens:=y.gens,os:=y.os}
 ·intro n o a e hd ea;obtain x02|Dp|t:=y.objs n o a e hd ea;obtain x12|ob|p|q:=Dp;exact ⟨i12 ob (hs a ob (x.objs n o a e hd ea).2.1 p) q,t⟩
 ·obtain x13|xs|t|q|lm:=x.more;exact i13 xs t (λp hp=>by obtain x05|q1|q2|q3|q4|q5:=q p hp;exact i05 (hs _ _ q2 q1) (Ne.symm (q3 (C,m) (.head _))) (λz hz=>q3 z (.tail _ hz)) q4 q5) (x.lams lm λa ob hb g=>hs a ob hb g)
theorem qW(elt:Expr)(gens:List Comprehension)(scope:Scope)(pos:Pos):Sim U Y0 VR (lV F elt gens scope J) (eval (.ListComp elt gens scope pos) U.env):=by
 obtain ⟨t,i,Ag,rfl⟩ | hf:(∃ t i Ag,gens= [⟨t,i,Ag,0⟩])\/lV F elt gens scope J=EX:=by
  induction gens using lCq with
  | nil=>exact .inr rfl
  | cons g r=>
   obtain ⟨t,i,Ag,n⟩:=g
   induction n with
   | ofNat m=>induction m using nCq with
    | zero=>induction r using lCq with
     | nil=>exact .inl (i31 t i Ag rfl)
     | cons _ _=>exact .inr rfl
    | succ m=>induction r using lCq <;> exact .inr rfl
   | negSucc m=>induction r using lCq <;> exact .inr rfl
 rotate_left
 ·rw [hf];exact Sim.fail
 refine Sim.need λhn=>⟨λY s r Q E ex st pe nn ok exc=>?_⟩;rw [bY] at hn;obtain x02|hc|hset:=hn;unfold tF at hc;rw [bY,eB] at hc;obtain x02|uY|hnames:=hc;have uY:scope.kind= .function:=by simpa using uY
 have hcell:∀ x∈scope.names,x.2≠ .cell:=λx hx=>by
  have:=hnames x hx;rw [bY] at this;simpa using this.1
 have hloc:∀ x∈scope.names,x.2= .local->scope.names.lookup x.1=some .local:=λx hx hl=>by
  have:=hnames x hx;rw [bY,hl] at this;simpa using this.2
 rw [eval_ListComp];cases De:MB J scope.names [] s with
 | none=>exact aS (QA De) nn
 | some p=>
 obtain ⟨res,s0⟩:=p
 induction res with
 | exc C=>exact aS De AI
 | ok cells=>
 obtain x02|rfl|Do:=VM ((e.mono ex).cells) De;obtain x12|clos|hcr|hclos:=Do;have bd:=nA (f:=λcells=>F.ev i J >>=λx=>oE x >>=λit=>FX (.list []) >>=λacc=>LX (HX [] (F.co t elt Ag it acc {scope:=JA J scope,cells,d:=J.d})) >>=λZ=>Pure.pure (V.ref acc)) De;have nn:(F.ev i J >>=λx=>oE x >>=λit=>FX (.list []) >>=λacc=>LX (HX [] (F.co t elt Ag it acc {scope:=JA J scope,cells,d:=J.d})) >>=λZ=>Pure.pure (V.ref acc)) s0≠none:=by rw [<-bd];exact nn
 have ok:=ok;have exc:=exc;have body:∀ {x:V} {it:Nat} {s1 s2:S},F.ev i J s0=some (.ok x,s1)->oE x s1=some (.ok it,s2)->∃ s5:S,F.co t elt Ag it s2.h.length {scope:=JA J scope,cells,d:=J.d} {s2 with h:=s2.h++ [.list []],l:= []}=some (.ok (),s5)/\
   (F.ev i J >>=λx=>oE x >>=λit=>FX (.list []) >>=λacc=>LX (HX [] (F.co t elt Ag it acc {scope:=JA J scope,cells,d:=J.d})) >>=λZ=>Pure.pure (V.ref acc)) s0=some (.ok (.ref s2.h.length),{s5 with l:=s2.l}):=by
  intro x it s1 s2 h1 h2;have a1:=nn;rw [nA h1,nA h2,nA (a:=s2.h.length) (s₁:={s2 with h:=s2.h++ [.list []]}) rfl] at a1;have a2:=bind_some a1;cases hco:F.co t elt Ag it s2.h.length {scope:=JA J scope,cells,d:=J.d} {s2 with h:=s2.h++ [.list []],l:= []} with
  | none=>refine aS ?_ a2;unfold LX HX;dsimp only;rw [hco]
  | some p=>
  obtain ⟨res,s5⟩:=p
  induction res with
  | exc C=>refine aS ?_ a2;unfold LX HX;dsimp only;rw [hco]
  | ok u=>
  have a3:LX (HX [] (F.co t elt Ag it s2.h.length {scope:=JA J scope,cells,d:=J.d})) {s2 with h:=s2.h++ [.list []]}=some (.ok (),{s5 with l:=s2.l}):=by unfold LX HX;dsimp only;rw [hco]
  exact ⟨s5,rfl,by rw [nA h1,nA h2,nA (a:=s2.h.length) (s₁:={s2 with h:=s2.h++ [.list []]}) rfl,nA a3];rfl⟩
 refine wpAny_comprehension_free (g:=⟨t,i,Ag,0⟩) (gs:= []) rfl (λx=>HG hset) hclos uY hloc ?_;refine (BB So e i ex).run Y s0 r _ E (Ext.refl _) st pe (bind_some nn) (λx s1 h1 Y1 y r1 x1 Al hy=>?_) (λc s1 h1 Y1 y r1 x1 fl=>exc c s1 (bd.trans (EA h1)) Y1 y r1 x1 fl);have nn1:=nn;rw [nA h1] at nn1;refine (qU hy).run Y1 s1 r1 _ E (Ext.refl _) Al pe (bind_some nn1) (λit s2 h2 Y2 z r2 x2 Aq hz=>?_) (λc s2 h2 Y2 y r2 x2 fl=>exc c s2 (by rw [bd,nA h1];exact EA h2) Y2 y r2 (x1.trans x2) fl);obtain x12|s5|hco|hrun:=body h1 h2;obtain x12|ai|eai|rfl:=hz;refine gV ?_ (dA _);have Bf:StL U (Y2++ [r2.heap.objs.size]) {s2 with h:=s2.h++ [.list []]} {r2 with heap:=r2.heap.push {cls:= .type "list",data:= .seq #[]}}:=
  Aq.alloc (tk:=r2.toks) (λb o e=>aM _ e) Heap.fresh_none (bC _ rfl) ⟨i03 rfl rfl rfl,[],0,rfl,trivial⟩ (aV Aq.big)
 refine wpAny_newFunctionEnv hcell (λx hx=>by cases hx) (λh' Be hsb=>?_) uY;obtain x12|m|hm|hlo:=Bf.ns;have x4:=(x1.trans x2:Ext Y Y2).trans (Ext.one Y2 r2.heap.objs.size);have hk:∀ b o,(r2.heap.push {cls:= .type "list",data:= .seq #[]}).get? b=some o->h'.get? b=some o:=λb o g=>hsb.extBut b o (bG (cP g)) (aM _ g);have By:=Bf.enter (tk:=r2.toks+0) hm hk Heap.fresh_none Be (aT Aq.big (by rw [gZ];exact cE _)) [] (λy v h=>by cases h);have hk0:U.env.scope.kind= .function:=by rw [e.scope];exact e.kind
 have e4:EvR {U with env:=compEnvC scope clos (r2.heap.push {cls:= .type "list",data:= .seq #[]}).objs.size U.env,kp:=(U.env.locals,m)::U.kp} (Y2++ [r2.heap.objs.size]) {scope:=JA J scope,cells,d:=J.d}:=by
  refine {a:={frames:=e.a.frames,handled:=e.a.handled,depth:=e.a.depth,units:=e.a.units,cover:=λenv he=>?_},scope:=?_,kind:=uY,cells:=hcr.mono x4,glob:=e.glob,blt:=e.blt,head:=λh=>aS h aW,lq:=λq h=>by cases h}
  ·obtain x02|a|Dn:=e.a.cover env he;obtain x12|L|b|c:=Dn;refine ⟨a,L,b,.inr ?_⟩;rcases c with rfl | ⟨q,hq,rfl⟩
   ·exact i12 _ (.head _) rfl
   ·exact i12 q (.tail _ hq) rfl
  ·show relabel scope U.env=JA J scope;unfold relabel JA;rw [hk0];unfold Env.kindOf;rw [e.scope];simp only [beq_self_eq_true,Bool.and_true]
 have key:∀ r',StL {U with env:=compEnvC scope clos (r2.heap.push {cls:= .type "list",data:= .seq #[]}).objs.size U.env,kp:=(U.env.locals,m)::U.kp} (Y2++ [r2.heap.objs.size]) {s2 with h:=s2.h++ [.list []],l:= []} r'->
   codeAny (model U.prog U.G.w) U.A (.compLoop (.ListComp elt [⟨t,i,Ag,0⟩] scope pos) 0 (.ref ai) (.ref r2.heap.objs.size) (compEnvC scope clos (r2.heap.push {cls:= .type "list",data:= .seq #[]}).objs.size U.env))
    (compPost (model U.prog U.G.w) U.A E none Q (.ref r2.heap.objs.size) (r2.heap.push {cls:= .type "list",data:= .seq #[]}).objs.size) r':=λr' st5=>by
  refine So.co {U with env:=compEnvC scope clos (r2.heap.push {cls:= .type "list",data:= .seq #[]}).objs.size U.env,kp:=(U.env.locals,m)::U.kp} _ _ t i elt Ag scope pos it s2.h.length ai r2.heap.objs.size rfl rfl e4 (pE eai) (by rw [<-Aq.len];simp) _ _ s5 r' _ (Ext.refl _) st5 hco λY5 r5 x5 st6=>?_;obtain x12|m6|hm6|u_:=st6.ns;refine i12 m6 hm6 λh6 hs6=>?_;refine ok (V.ref s2.h.length) _ (by rw [bd];exact hrun) Y5 _ _ (x4.trans x5) (st6.leaveBut (hlo.mono x5) (λq hq=>(Bf.kept q hq).2.1) hs6.extBut) (i12 _ (x5.get (by rw [<-Aq.len];simp)) rfl)
 refine codeAny_compStart_list (key _ By) ?_;obtain x13|o|ho|hd|hk:=MS h2;refine qR (U:={U with env:=compEnvC scope clos (r2.heap.push {cls:= .type "list",data:= .seq #[]}).objs.size U.env,kp:=(U.env.locals,m)::U.kp}) By (o:=o) (it:=it) ?_ (pE eai) hd hk (key _ By);exact (dC (aQ.mp ho).1).trans ho
end
end
section
open PyProof.Rows.LSm
theorem M.assoc{β γ:Type}(m:M α)(f:α->M β)(g:β->M γ):(m >>=f) >>=g=m >>=λa=>f a >>=g:=by
 funext s;show M.bind (M.bind m f) g s=M.bind m (λa=>M.bind (f a) g) s;unfold M.bind;cases m s with
 | none=>rfl
 | some p=>
  obtain ⟨a,s1⟩:=p
  induction a <;> rfl
section
variable {U:Lev} {Y0:List Addr} {F:Fns} {J:Ev} {s s':S} {r:Shared}
theorem KV{ts:List Expr}{v:Expr}(h:env.scope=J.scope):swappedStores ts v env=swappedStores ts v (WJ J):=by
 unfold swappedStores Env.kindOf Env.blockKind WJ;rw [h]
theorem xL{F:Fns}{t:Expr}{J:Ev}{s:S}(h:WA t=false):sB K F t J v s=none:=by
 exact Expr.Starred.elim (motive_1:=λt=>sB K F t J v s=none) t (by simpa [WA] using h) λ_ _=>rfl
theorem MH{x:Expr}{l:Nat}(h:LH x=true)(t:Option Expr):swapsWith x t l env=pure false:=by
 induction x using eCq <;> first | rfl | exact aS h aW
theorem lL{ts:List Expr}{v:Expr}{o:Option (List Str)}(hs:env.scope=J.scope)(h:TI ts v J=some o):swappedStores ts v env=pure o:=by
 rw [KV hs];obtain x12|y|u_|rfl:=bH.mp (show (semP (swappedStores ts v (WJ J))).map (·.1)=some o from h);exact y.2
variable (W:Wd U.G K) (So:Sound U.prog U.G F) (e:EvR U Y0 J)
include e
theorem yT(xs:List Str):∀ {Y:List Addr} {vs:List V} {ys:List Value},Ext Y0 Y->VsR Y vs ys->Sim U Y QC (LD J xs vs) (assignInOrder (xs.map λn=>bindName U.env n) ys):=by
 induction xs with
 | nil=>
  intro Y vs ys ex h
  induction vs using lCq with
  | nil=>induction ys using lCq with
   | nil=>exact Sim.pure λZ Z=>trivial
   | cons=>exact h.elim
  | cons=>exact Sim.fail
 | cons x xs ih=>
  intro Y vs ys ex h
  induction vs using lCq with
  | nil=>exact Sim.fail
  | cons v vs=>induction ys using lCq with
   | nil=>exact h.elim
   | cons y ys=>
    show Sim U Y QC (NB J x v >>=λZ=>LD J xs vs) (PySem.holding ys (bindName U.env x y) >>=λZ=>assignInOrder (xs.map λn=>bindName U.env n) ys);exact Sim.bind (Sim.holding (DR (e.mono ex) x h.1)) λY1 Z Z Ak Z=>ih (ex.trans Ak) (h.2.mono Ak)
omit e in
theorem VsR.reverse{ys:List Value}(h:VsR Y vs ys):VsR Y vs.reverse ys.reverse:=
 VsR.ind (p:=λvs ys=>VsR Y vs.reverse ys.reverse) trivial (λZ Z Z Z a Z ih=>by rw [List.reverse_cons,List.reverse_cons];exact ih.append ⟨a,trivial⟩) h
include W So
theorem wL(t x:Expr)(pos:Pos):Sim U Y0 FlowR (RB K F (.Assign [t] x pos) J) (exec (.Assign [t] x pos) U.env):=by
 unfold RB;refine Sim.need λhn=>?_;rw [exec_Assign_arm];refine Sim.at ?_;show Sim U Y0 FlowR _ (swapsWith x (some t) pos.line U.env >>=λb=>if b then (evalThenUse x U.env (λv=>assignAll v ((assignEach [t] U.env).map (·.2))) >>=λZ=>Pure.pure PySem.Flow.next) else eval x U.env >>=λv=>swappedStores [t] x U.env >>=λq=>assignStores U.env v q ((assignEach [t] U.env).map (·.2)));rw [MH hn];show Sim U Y0 FlowR _ (eval x U.env >>=λv=>swappedStores [t] x U.env >>=λq=>assignStores U.env v q ((assignEach [t] U.env).map (·.2)));refine Sim.bind (BB So e x (Ext.refl _)) λY1 v y ex hv=>?_;cases hw:TI [t] x J with
 | none=>exact Sim.fail
 | some w=>
 induction w with
 | some names=>
  rw [lL e.scope hw];show Sim U Y1 FlowR _ (rule "assign.swapped-stores" >>=λZ=>unpackItems y names.length none >>=λitems=>assignInOrder (names.reverse.map λn=>bindName U.env n) items.reverse >>=λZ=>Pure.pure PySem.Flow.next);refine Sim.skip (λq=>wpAny_rule (q ())) λZ=>Sim.of_at λY2 s r Ap st=>?_;refine At.items e.a.handled st (hv.mono Ap) (λvs h=>aX h) λvs l r' hl hlen st'=>?_;refine At.bind (yT e names.reverse (ex.trans Ap) hl.reverse) st' λY3 Z Z s3 r3 Z Z Bf Z=>?_;exact At.of (Sim.pure λZ Z=> .next) (Ext.refl _) Bf
 | none=>
  rw [lL e.scope hw];show Sim U Y1 FlowR _ (assignAll y ((assignEach [t] U.env).map (·.2)) >>=λZ=>Pure.pure PySem.Flow.next);by_cases hs:WA t=true
  ·rw [yK hs];show Sim U Y1 FlowR _ (assign t U.env y >>=λZ=>Pure.pure PySem.Flow.next);exact Sim.bind (oJ W So e t ex hv) λZ Z Z Z Z=>Sim.pure λZ Z=> .next
  ·exact ⟨λZ Z Z Z Z Z Z Z nn Z Z=>aS (QA (xL (fY.mpr hs))) nn⟩
omit W in
theorem xS(o i:Expr)(p pos:Pos):Sim U Y0 FlowR (RB K F (.Delete [.Subscript o i p] pos) J) (exec (.Delete [.Subscript o i p] pos) U.env):=by
 unfold RB;rw [arm_exec_Delete];refine Sim.at ?_;show Sim U Y0 FlowR _ ((delete (.Subscript o i p) U.env >>=λZ=>Pure.pure ()) >>=λZ=>Pure.pure PySem.Flow.next);have h:Sim U Y0 QC (F.ev o J >>=λov=>F.ev i J >>=λiv=>nD ov iv) (delete (.Subscript o i p) U.env):=by
  show Sim U Y0 QC _ (eval o U.env >>=λov=>PySem.holding [ov] (eval i U.env) >>=λiv=>standAt p >>=λZ=>PySem.holding [ov,iv] (delItem ov iv) >>=λZ=>PySem.release [ov,iv] []);exact Sim.bind (BB So e o (Ext.refl _)) λY1 a x Ak ha=>Sim.bind (Sim.holding (BB So e i Ak)) λY2 b z Ap hb=>Sim.at (Sim.thenRelease (Sim.holding (OP (ha.mono Ap) hb)))
 have h2:Sim U Y0 FlowR ((F.ev o J >>=λov=>F.ev i J >>=λiv=>nD ov iv) >>=λZ=>Pure.pure .next) ((delete (.Subscript o i p) U.env >>=λZ=>Pure.pure ()) >>=λZ=>Pure.pure PySem.Flow.next):=Sim.bind (Sim.bindPure h) λZ Z Z Z Z=>Sim.pure λZ Z=> .next;refine Sim.of_eq h2 ?_ rfl;show (F.ev o J >>=λov=>F.ev i J >>=λiv=>nD ov iv >>=λZ=>Pure.pure Internal.Flow.next)=_;rw [M.assoc];congr 1;funext ov;rw [M.assoc]
omit W in
theorem wW(x:Expr)(pos:Pos):Sim U Y0 FlowR (RB K F (.Expr x pos) J) (exec (.Expr x pos) U.env):=by
 unfold RB;refine Sim.need λhn=>⟨λY s r Q E ex st pe nn ok exc=>?_⟩;have hi:interactive U.env=false:=by unfold interactive;rw [e.scope,e.kind];rfl
 refine wpAny_Expr_any ((BB So e x ex).run Y s r _ E (Ext.refl _) st pe (bind_some nn) (λv s1 h1 Y1 y r1 x1 Al hv=>?_) λc s1 h1=>exc c s1 (EA h1)) hi (MH hn none);exact ok .next s1 (by rw [nA h1];rfl) Y1 _ r1 x1 Al .next
omit W in
theorem oT(x:Expr)(pos:Pos):Sim U Y0 FlowR (RB K F (.Return (some x) pos) J) (exec (.Return (some x) pos) U.env):=by
 unfold RB;show Sim U Y0 FlowR _ (standAt pos >>=λZ=>eval x U.env >>=λv=>Pure.pure (PySem.Flow.ret v));exact Sim.at (Sim.bind (BB So e x (Ext.refl _)) λY1 v y ex hv=>Sim.pure λY ex'=> .ret (hv.mono ex'))
omit W in
theorem if_S(t:Expr)(b o:List Stmt)(pos:Pos):Sim U Y0 FlowR (RB K F (.If t b o pos) J) (exec (.If t b o pos) U.env):=by
 unfold RB;rw [arm_exec_If];refine Sim.at (Sim.bind (XJ So e t (Ext.refl _)) λY1 k k' ex hk=>?_);subst hk
 induction k with
 | true=>exact So.exs U J Y1 b rfl rfl (e.mono ex)
 | false=>exact So.exs U J Y1 o rfl rfl (e.mono ex)
omit W in
theorem NV(t:Expr)(b:List Stmt)(pos:Pos):Sim U Y0 FlowR (RB K F (.While t b [] pos) J) (exec (.While t b [] pos) U.env):=
 ⟨λY s r Q E ex st pe nn ok exc=>wpAny_While (So.wh U J Y0 t b rfl rfl e Y s r Q E ex st pe nn ok exc)⟩
omit W in
theorem nX(t i:Expr)(b:List Stmt)(pos:Pos):Sim U Y0 FlowR (RB K F (.For t i b [] pos) J) (exec (.For t i b [] pos) U.env):=by
 unfold RB;refine Sim.need λhn=>⟨λY s r Q E ex st pe nn ok exc=>wpAny_For ?_ λx=>HG hn⟩;refine (BB So e i ex).run Y s r _ E (Ext.refl _) st pe (bind_some nn) (λx s1 h1 Y1 y r1 x1 Al hy=>?_) (λc s1 h1=>exc c s1 (EA h1));have q1:=nA (f:=λx=>oE x >>=λit=>F.fo t it b J) h1;have nn1:=nn;rw [q1] at nn1;refine (qU hy).run Y1 s1 r1 _ E (Ext.refl _) Al pe (bind_some nn1) (λit s2 h2 Y2 z r2 x2 Aq hz=>?_) (λc s2 h2 Y2 y r2 x2 fl=>exc c s2 (by rw [q1];exact EA h2) Y2 y r2 (x1.trans x2) fl);obtain x12|ai|eai|rfl:=hz;have q2:=nA (f:=λit=>F.fo t it b J) h2;rw [q2] at nn1;exact So.fo U J Y2 t b it ai rfl rfl (e.mono (ex.trans (x1.trans x2))) eai Y2 s2 r2 Q E (Ext.refl _) Aq pe nn1 (λa s3 h3 Y3 b r3 x3=>ok a s3 (by rw [q1,q2];exact h3) Y3 b r3 ((x1.trans x2).trans x3)) (λc s3 h3 Y3 b r3 x3=>exc c s3 (by rw [q1,q2];exact h3) Y3 b r3 ((x1.trans x2).trans x3))
omit W in
theorem wh_S(t:Expr)(b:List Stmt):SimC U Y0 FlowR (whM F t b J) (.whileLoop t b [] U.env):=by
 intro Y s r Q E ex st pe nn ok exc;unfold whM at nn ok exc;refine whl_turn (k:=0) pe ?_;refine (XJ So e t ex).run Y s r _ E (Ext.refl _) st pe (bind_some nn) (λk s1 h1 Y1 k' r1 x1 Al hk=>?_) (λc s1 h1=>exc c s1 (EA h1))
 induction hk
 rw [nA h1] at nn ok exc
 induction k with
 | false=>exact WhlIf.no rfl (aG (ok _ _ rfl Y1 _ r1 x1 Al .next))
 | true=>
  simp only [if_true] at nn ok exc;refine WhlIf.yes rfl ?_;refine (So.exs U J Y1 b rfl rfl (e.mono (ex.trans x1))).run Y1 s1 r1 _ E (Ext.refl _) Al pe (bind_some nn) (λf s2 h2 Y2 f' r2 x2 Aq hf=>?_) (λc s2 h2 Y2 y r2 x2=>exc c s2 (EA h2) Y2 y r2 (x1.trans x2));rw [nA h2] at nn ok exc
  induction hf with
  | next=>exact So.wh U J Y2 t b rfl rfl (e.mono (ex.trans (x1.trans x2))) Y2 s2 r2 Q E (Ext.refl _) Aq pe nn (λa s3 h3 Y3 b r3 x3=>ok a s3 h3 Y3 b r3 ((x1.trans x2).trans x3)) (λc s3 h3 Y3 b r3 x3=>exc c s3 h3 Y3 b r3 ((x1.trans x2).trans x3))
  | ret hv=>exact ok _ _ rfl Y2 _ r2 (x1.trans x2) Aq (.ret hv)
omit W So e in
theorem XS{t:Expr}{it:Nat}{s:S}{C:Addr}{s':S}:ownM t it v s≠some (.exc C,s'):=λh=>by
 unfold ownM at h;cases hx:vD t with
 | none=>
  rw [hx] at h;have h:BX (QJ t) s=_:=h;cases hb:QJ t <;> rw [hb] at h <;> cases h
 | some p=>
  rw [hx] at h;refine GD h λo Z h2=>?_
  induction o with
  | itL l i=>cases h2
  | itE n i w=>induction w with
   | none=>exact nos h2
   | some k=>
    refine KH h2 λZ h4=>?_;have h4:GX it _ s=_:=h4
    revert h4;show (if _ then _ else _)=_->_
    by_cases hz:it < s.h.length
    ·rw [aN hz];intro h4;cases h4
    ·rw [aJ hz];intro h4;cases h4
  | _=>exact nos h2
theorem fo_S(t:Expr)(b:List Stmt){it:Nat}(ea:Y0[it]? =some a):SimC U Y0 FlowR (foM K F t it b J) (.forLoop t (.ref a) b [] U.env):=by
 intro Y s r Q E ex st pe nn ok exc;unfold foM at nn ok exc;refine codeAny_of_tree ?_;show wpAny _ U.A ((forTurn t (.ref a) b [] U.env).onRaise (λx=>do noteFrame x U.env;theTreesLotGoes x)) _ _ r;refine wpAny_noted (fG (Q:=λfin s'=>match fin with | .done f=>Q f s' | .again c'=>c'.quiet=true/\codeAny (model U.prog U.G.w) U.A c' (λres s'=>match res with | .ok f=>Q f s' | .error e=>cameBackBy (model U.prog U.G.w) U.A U.env E e s') s') ?_ (λZ Z h=>h) pe);unfold forTurn;refine aA (dP (aA (wpAny_onRaise (fG (Q:=λo s'=>wpAny (model U.prog U.G.w) U.A _ _ E s') ((uU e.a.handled (ex.get ea)).run Y s r _ E (Ext.refl _) st pe (bind_some nn) (λo s1 h1 Y1 o' r1 x1 Al ho=>?_) (λc s1 h1=>exc c s1 (EA h1))) (λZ Z h=>h) λZ Z h=>dP h))))
 ·rw [nA h1] at nn ok exc
  induction o with
  | none=>
   induction o' with
   | some _=>exact ho.elim
   | none=>exact aG ⟨rfl,codeAny_of_tree (by
     show wpAny _ U.A (_ >>=_) _ _ r1;exact aA (wpAny_onRaise (aG (aG (ok _ _ rfl Y1 _ r1 x1 Al .next)))))⟩
  | some v=>
   induction o' with
   | none=>exact ho.elim
   | some y=>
   cases h3:ownM t it v s1 with
   | none=>exact aS (QA h3) nn
   | some p=>
   obtain ⟨res,s2⟩:=p
   induction res with
   | exc C=>exact aS h3 XS
   | ok u=>
   dsimp only at nn ok exc;have own:=λ{Q E}=>wU Al (x1.get (ex.get ea)) ho h3 (A:=U.A) (Q:=Q) (E:=E);rw [nA h3] at nn ok exc;refine aA (own λr1' Al=>(aA ?_));refine (oJ W So e t (ex.trans x1) ho).run Y1 s2 r1' _ E (Ext.refl _) Al pe (bind_some nn) (λu2 s3 h4 Y2 Z r2 x2 Aq Z=>?_) (λc s3 h4 Y2 y r2 x2=>exc c s3 (EA h4) Y2 y r2 (x1.trans x2));rw [nA h4] at nn ok exc;refine aA ((So.exs U J Y2 b rfl rfl (e.mono (ex.trans (x1.trans x2)))).run Y2 s3 r2 _ E (Ext.refl _) Aq pe (bind_some nn) (λf s4 h5 Y3 f' r3 x3 Bf hf=>?_) (λc s4 h5 Y3 y r3 x3=>exc c s4 (EA h5) Y3 y r3 ((x1.trans x2).trans x3)));rw [nA h5] at nn ok exc;have x13:=(x1.trans x2).trans x3
   induction hf with
   | next=>exact aG ⟨rfl,So.fo U J Y3 t b it a rfl rfl (e.mono (ex.trans x13)) (x13.get (ex.get ea)) Y3 s4 r3 Q E (Ext.refl _) Bf pe nn (λa s3 h3 Y4 b r4 x4=>ok a s3 h3 Y4 b r4 (x13.trans x4)) (λc s3 h3 Y4 b r4 x4=>exc c s3 h3 Y4 b r4 (x13.trans x4))⟩
   | ret hv=>exact aG (ok _ _ rfl Y3 _ r3 x13 Bf (.ret hv))
end
end
section
open PyProof.Rows.LSm
theorem HN:∀ {ns:List Str} {xs:List Value} {k:Nat} {n:Str},n∈ns.take k->k<=xs.length->((ns.zip xs).lookup n).isSome=true:=by
 intro ns
 induction ns with
 | nil=>intro xs k n h _;rw [List.take_nil] at h;cases h
 | cons m ns ih=>
  intro xs k n h hl
  induction k using nCq with
  | zero=>cases h
  | succ k=>
   induction xs using lCq with
   | nil=>exact aS hl (dY k)
   | cons x xs=>
    rw [fR,bQ];cases hb:n==m with
    | true=>rfl
    | false=>
     rw [List.take_succ_cons,aZ] at h;rcases h with rfl | h
     ·rw [beq_self_eq_true] at hb;cases hb
     ·exact ih h (eY hl)
theorem JT:∀ {ns:List Str} {xs:List Value} {n:Str},ns.Nodup->n∈ns.drop xs.length->(ns.zip xs).lookup n=none:=by
 intro ns
 induction ns with
 | nil=>intro xs n _ h;rw [List.drop_nil] at h;cases h
 | cons m ns ih=>
  intro xs n hd h
  induction xs using lCq with
  | nil=>rfl
  | cons x xs=>
   rw [bN] at hd;rw [fR,bQ];have h':n∈ns.drop xs.length:=h;rw [beq_false_of_ne λe:n=m=>hd.1 (e▸List.mem_of_mem_drop h')];exact ih hd.2 h'
theorem rI{β:Type}{f g:α->Option β}:∀ {l:List α},(∀ a∈l,f a=g a)->l.filterMap f=l.filterMap g:=by
 intro l
 induction l with
 | nil=>intro _;exact rfl
 | cons a l ih=>
  intro h;rw [dS,dS,h a (.head _),ih λb hb=>h b (.tail _ hb)]
theorem DT:∀ {ns:List Str} {xs:List Value},(ns.take xs.length).zip xs=ns.zip xs:=by
 intro ns
 induction ns with
 | nil=>intro xs;rw [List.take_nil]
 | cons m ns ih=>
  intro xs
  induction xs using lCq with
  | nil=>rfl
  | cons x xs=>exact aU (List.cons (m,x)) ih
theorem KT:∀ {ns:List Str} {ys:List Value},ns.Nodup->ns.length=ys.length->ns.filterMap (λn=>((ns.zip ys).lookup n).map λv=>(n,v))=ns.zip ys:=by
 intro ns
 induction ns with
 | nil=>intro ys _ _;rfl
 | cons m ns ih=>
  intro ys hd hl
  induction ys using lCq with
  | nil=>cases hl
  | cons y ys=>
   rw [bN] at hd;have ih:=ih hd.2 (ys:=ys) (Nat.succ.inj hl);rw [fR,dS,bQ,beq_self_eq_true];refine aU (List.cons (m,y)) ((rI λn hn=>?_).trans ih);rw [bQ,beq_false_of_ne λe:n=m=>hd.1 (e▸hn)]
theorem rQ(f:Str×Value->List (Str×Value)->Sem (ForInStep (List (Str×Value))))(hf:∀ p b,f p b=pure (ForInStep.yield (if (b.lookup p.1).isNone then b++ [(p.1,p.2)] else b))):∀ (l:List (Str×Value)) {b:List (Str×Value)},(∀ p∈l,(b.lookup p.1).isSome=true)->forIn l b f=(pure b:Sem _):=by
 intro l
 induction l with
 | nil=>intro b _;exact rfl
 | cons p l ih=>
  intro b h;rw [fJ,hf];have:=h p (.head _);rw [aJ (by cases hq:List.lookup p.1 b <;> simp_all),pure_bind];exact ih λq hq=>h q (.tail _ hq)
theorem FS(f:Str×Value->List (Str×Value)->Sem (ForInStep (List (Str×Value))))(hf:∀ p b,f p b=pure (ForInStep.yield (if (b.lookup p.1).isNone then b++ [(p.1,p.2)] else b))):∀ (l:List (Str×Value)) {b:List (Str×Value)},(l.map (·.1)).Nodup->(∀ p∈l,b.lookup p.1=none)->forIn l b f=(pure (b++l):Sem _):=by
 intro l
 induction l with
 | nil=>intro b _ _;simp
 | cons p l ih=>
  intro b hd h;rw [bJ,bN] at hd;rw [fJ,hf];rw [aN (by rw [h p (.head _)];rfl),pure_bind];have:=ih (b:=b++ [(p.1,p.2)]) hd.2 λq hq=>by
   rw [List.lookup_append,h q (.tail _ hq)];have:(q.1==p.1)=false:=by simpa using λe:q.1=p.1=>hd.1 (e▸bI hq)
   simp only [List.lookup_cons,this,List.lookup_nil];rfl
  exact this.trans (by rw [eT];rfl)
theorem KN(fd:FuncData)(as:List Arg)(kd:List (Option Expr))(df:List Expr)(e:fd.params=⟨[],as,none,[],kd,none,df⟩)(xs:List Value)(ns:List Str)(Be:as.map (·.arg)=ns):
  ∃ (X1 X2:Option (Array Value)->Sem (List (Str×Value))) (X3:List (Str×Value)->Option (Array Value)->Sem (List (Str×Value))) (f:Option (Array Value)->Str×Value->List (Str×Value)->Sem (ForInStep (List (Str×Value)))),
   (∀ o p b,f o p b=pure (ForInStep.yield (if (b.lookup p.1).isNone then b++ [(p.1,p.2)] else b)))/\(∀ o sl,X3 sl o=pure ((ns++ []).filterMap λn=>(sl.lookup n).map λv=>(n,v)))/\
   bindArgs fd ⟨xs,[]⟩=seqItems? fd.defaults >>=λo=>if (decide (xs.length > ns.length) && true)=true then X1 o else
    if (!((ns.take (ns.length - ((Option.getD o #[]).toList.drop ((Option.getD o #[]).toList.length - ns.length)).length)).filter λn=>((ns.zip xs).lookup n).isNone).isEmpty)=true then X2 o else
    forIn ((ns.drop (ns.length - ((Option.getD o #[]).toList.drop ((Option.getD o #[]).toList.length - ns.length)).length)).zip ((Option.getD o #[]).toList.drop ((Option.getD o #[]).toList.length - ns.length))) (ns.zip xs) (f o) >>=λsl=>X3 sl o:=by
 induction fd
 dsimp only at e;subst e Be;exact i43 _ _ _ _ (λZ p b=>by obtain ⟨k,v⟩:=p;dsimp only;split <;> rfl) (λZ Z=>rfl) rfl
theorem bl{ns:List Str}{ds:List Value}(hl:(xs.length=n/\ds.length<=xs.length)\/xs.length+ds.length=n)(hnl:ns.length=n):ns.length=(if xs.length=n then xs else xs++ds).length:=by
 by_cases hx:xs.length=n
 ·rw [aN hx];exact hnl.trans hx.symm
 ·rw [aJ hx,bA];exact hnl.trans (hl.resolve_left λh=>hx h.1).symm
theorem bl2{ns:List Str}{ds:List Value}(hl:(xs.length=n/\ds.length<=xs.length)\/xs.length+ds.length=n)(hnl:ns.length=n):¬(decide (xs.length > ns.length) && true)=true:=λh=>
 cB.mpr (hl.elim (λh=>bV (h.1.trans hnl.symm)) λh=>hnl▸h▸bM ..) (aX ((Bool.and_true _).symm.trans h))
theorem pJ{M:Model}{s:Shared}{Q:List (Str×Value)->Shared->Prop}{fd:FuncData}{ds:List Value}(hp:AC fd.params=true)(hd:(fd.params.args.map (·.arg)).Nodup)
  (hs:∀ {Q:Option (Array Value)->Shared->Prop},(∀ o,(Option.getD o #[]).toList=ds->Q o s)->wpAny M A (seqItems? fd.defaults) Q E s)
  (hl:(xs.length=fd.params.args.length/\ds.length<=xs.length)\/xs.length+ds.length=fd.params.args.length)
  (h:Q ((fd.params.args.map (·.arg)).zip (if xs.length=fd.params.args.length then xs else xs++ds)) s):wpAny M A (bindArgs fd ⟨xs,[]⟩) Q E s:=by
 unfold AC at hp;simp only [Bool.and_eq_true,List.isEmpty_iff,Option.isNone_iff_eq_none] at hp;obtain x02|Do|h4:=hp;obtain x02|Dp|h3:=Do;obtain x02|h1|h2:=Dp;have e:fd.params=⟨[],fd.params.args,none,[],fd.params.kw_defaults,none,fd.params.defaults⟩:=by
  revert h1 h2 h3 h4;refine genI (fd.params) ?_;intro p h1 h2 h3 h4
  cases p;dsimp only at h1 h2 h3 h4;subst h1 h2 h3 h4;rfl
 have hnl:(fd.params.args.map (·.arg)).length=fd.params.args.length:=aO _
 revert hd h hnl;refine genE (fd.params.args.map λx:Arg=>x.arg) ?_;intro ns Be hd h hnl
 obtain x42|X1|X2|X3|f|hf|Dn:=KN fd _ _ _ e xs ns Be;obtain x02|h3|e:=Dn;rw [e];clear e;refine aA (hs λo ho=>?_);have Cz:ds.length<=ns.length:=hnl▸hl.elim (λh=>h.1▸h.2) (λh=>h▸cH ..);have Da:ns.length - ds.length<=xs.length:=hnl▸hl.elim (λh=>h.1▸gP ..) (λh=>bV (by rw [<-h,Nat.add_sub_cancel]));have Dl:ds.drop (ds.length - ns.length)=ds:=by
  have:ds.length - ns.length=0:=Nat.sub_eq_zero_of_le Cz;rw [this,hM]
 rw [ho,Dl];have hmiss:List.filter (λn=>(List.lookup n (ns.zip xs)).isNone) (List.take (ns.length - ds.length) ns)= []:=by
  rw [List.filter_eq_nil_iff];intro n hn;have:=HN (xs:=xs) hn Da;exact λhc=>by rw [Option.isNone_iff_eq_none] at hc;rw [hc] at this;cases this
 rw [hmiss,aJ (bl2 hl hnl),aJ aW];have loop:∀ (f:Str×Value->List (Str×Value)->Sem (ForInStep (List (Str×Value)))) (hf:∀ p b,f p b=pure (ForInStep.yield (if (b.lookup p.1).isNone then b++ [(p.1,p.2)] else b))),
   forIn ((ns.drop (ns.length - ds.length)).zip ds) (ns.zip xs) f=(pure (ns.zip (if xs.length=fd.params.args.length then xs else xs++ds)):Sem _):=by
  intro f hf;by_cases hx:xs.length=fd.params.args.length
  ·rw [aN hx];refine rQ f hf _ λp hp=>?_;have:p.1∈ns:=List.mem_of_mem_drop (List.of_mem_zip (a:=p.1) (b:=p.2) hp).1;exact HN (k:=ns.length) (by rw [gJ];exact this) (bV (hnl.trans hx.symm))
  ·rw [aJ hx];have Cg:xs.length+ds.length=fd.params.args.length:=by rcases hl with h | h;exact aS h.1 hx;exact h
   have hk:ns.length - ds.length=xs.length:=by rw [hnl,<-Cg,Nat.add_sub_cancel]
   rw [hk];have hz:ns.zip (xs++ds)=ns.zip xs++(ns.drop xs.length).zip ds:=by
    conv=>lhs;rw [<-List.take_append_drop xs.length ns]
    rw [List.zip_append (by rw [List.length_take];exact Nat.min_eq_left (hnl▸Cg▸bM ..))];congr 1;exact DT
   rw [hz];refine FS f hf _ ?_ λp hp=>JT hd (List.of_mem_zip (a:=p.1) (b:=p.2) hp).1;rw [List.map_fst_zip (by rw [List.length_drop];exact Nat.sub_le_iff_le_add.mpr (bV (by rw [hnl,<-Cg,fK])))];exact hd.sublist (List.drop_sublist _ _)
 rw [loop _ (hf o),pure_bind,h3,eW,KT hd (bl hl hnl)];exact aG h
end
section
open PyProof.Rows.LSm
structure Still(G:Ground)(C:Addr)(kp:Kept)(Y:List Addr)(s:S)(r:Shared)(B:Heap):Prop where
 base:G.base.StaysIn B
 objs:∀ (n:Nat) (o:O) (a:Addr),s.h[n]? =some o->o≠ .dead->Y[n]? =some a->B.get? a=r.heap.get? a
 more:∃ xs,G.tabs xs/\(∀ q∈xs,B.get? q.1=some q.2/\r.heap.get? q.1=some q.2/\q.1≠C/\(∀ p∈kp,p.1≠q.1)/\G.base.get? q.1=none/\∀ n,Live s n->Y[n]? ≠some q.1)/\CG Y s.h B xs
theorem St.slots{G:Ground}{C:Addr}{kp:Kept}{s:S}{r:Shared}{B h':Heap}(x:St G C kp Y s r)(y:Still G C kp Y s r B)(hB:B.StaysIn h')(hu:r.heap.UpToSlots h'):St G C kp Y s {r with heap:=h'}/\Still G C kp Y s {r with heap:=h'} B:=by
 have ob:∀ (n:Nat) (o:O) (a:Addr),s.h[n]? =some o->o≠ .dead->Y[n]? =some a->h'.get? a=r.heap.get? a:=λn o a e hd ea=>by
  obtain x02|Dr|u_:=x.objs n o a e hd ea;obtain x12|o1|g|u_:=Dr;rw [g];exact hB a o1 ((y.objs n o a e hd ea).trans g)
 obtain x13|xs|tb|q|lm:=y.more;refine ⟨{base:=λb o e=>hB b o (y.base b o e),ns:=?_,kept:=λp hp=>⟨hu.ns (x.kept p hp).1,(x.kept p hp).2⟩,low:=x.low,len:=x.len,objs:=?_,inj:=x.inj,fresh:=x.fresh,more:=?_,gens:=x.gens,os:=x.os},?_⟩
 ·obtain x12|m|a|b:=x.ns;exact i12 m (hu.ns a) b
 ·intro n o a e hd ea;obtain x02|Dq|t:=x.objs n o a e hd ea;obtain x12|o1|g|z:=Dq;exact ⟨i12 o1 ((ob n o a e hd ea).trans g) z,t⟩
 ·refine i13 xs tb (λp hp=>let ⟨q1,q2⟩:=q p hp;⟨hB _ _ q1,q2.2⟩) λn body scope cells a o1 e ea g=>?_;have hd:O.lam body scope cells≠ .dead:=by simp
  exact lm n body scope cells a o1 e ea ((y.objs n _ a e hd ea).trans ((ob n _ a e hd ea).symm.trans g))
 ·exact ⟨y.base,λn o a e hd ea=>(y.objs n o a e hd ea).trans (ob n o a e hd ea).symm,xs,tb,λp hp=>by obtain x02|q1|q2:=q p hp;exact ⟨q1,hB _ _ q1,q2.2⟩,lm⟩
theorem Still.leave{G:Ground}{C L:Addr}{kp:Kept}{m:Str->Option Value}{s:S}{r:Shared}{B:Heap}{l:List (Str×V)}(y:Still G L ((C,m)::kp) Y s r B):Still G C kp Y {s with l:=l} r B where
 base:=y.base
 objs:=y.objs
 more:=let ⟨xs,tb,q,lm⟩:=y.more
  (i13 xs tb (λp hp=>by obtain x06|q0|q1|u_|q3|q4|q5:=q p hp;exact i06 q0 q1 (Ne.symm (q3 (C,m) (.head _))) (λz hz=>q3 z (.tail _ hz)) q4 q5) lm)
theorem Flies.still{U:Lev}{s:S}{c e:Addr}{r:Shared}(x:Flies U Y s c e r):∃ B a0,Heap.StaysIn B r.heap/\B.get? e=none/\r.heap.FunFrames B U.envs/\Still U.G U.env.locals U.kp Y s r B/\
  ((∃ ob vs,r.heap.get? e=some ob/\ob.cls= .ref c/\ob.data= .fields vs/\vs[0]? =some a0/\vs[1]? =some .none)\/r.heap.TracedW B e (.ref c) a0):=by
 obtain x24|B|a0|h1|h2|h3|Dp:=x.fly;obtain x04|h4|h5|h6|h7:=Dp;exact i25 B a0 h1 h2 h3 ⟨h4,h5,h6⟩ h7
theorem Flies.of{U:Lev}{s:S}{c e:Addr}{r:Shared}{B:Heap}{a0:Value}(st:St U.G U.env.locals U.kp Y s r)(h1:Heap.StaysIn B r.heap)(h2:B.get? e=none)(h3:r.heap.FunFrames B U.envs)(y:Still U.G U.env.locals U.kp Y s r B)
  (h7:(∃ ob vs,r.heap.get? e=some ob/\ob.cls= .ref c/\ob.data= .fields vs/\vs[0]? =some a0/\vs[1]? =some .none)\/r.heap.TracedW B e (.ref c) a0):Flies U Y s c e r:=⟨st,B,a0,h1,h2,h3,y.base,y.objs,y.more,h7⟩
noncomputable abbrev Lev.call(U:Lev)(A:Around)(env:Env)(m:Str->Option Value):Lev:={U with A,env,kp:=(U.env.locals,m)::U.kp,envs:=env::U.envs}
theorem Flies.leaves{U:Lev}{m:Str->Option Value}{s:S}{c e:Addr}{r:Shared}{l:List (Str×V)}{L:Addr}{M:Model}{Q:Unit->Shared->Prop}
  (x:Flies (U.call A env m) Y s c e r) (hl:LocR Y l m) (hk:∀ q∈U.kp,q.1≠U.env.locals) (hfr:A.frames=some (env::U.envs)) (hf:env.frame=some L) (h:∀ r',Flies U Y {s with l:=l} c e r'->Q () r'):wpAny M A (leaving env (.ref e)) Q E r:=by
 obtain x24|B|a0|h1|h2|h3|Do:=x.still;obtain x02|y|h7:=Do;have fin:∀ h',B.StaysIn h'->h'.FunFrames B U.envs->h'.TracedW B e (.ref c) a0->r.heap.UpToSlots h'->Q () {r with heap:=h'}:=λh' k1 k2 k3 k4=>by
  obtain x02|st|y':=x.st.slots y k1 k4;exact h _ (Flies.of (st.leave hl hk) k1 h2 k2 y'.leave (.inr k3))
 rcases h7 with ⟨ob,vs,g,hc,hd,h0,hn⟩ | ht
 ·refine wpAny_leaving_firstW hfr h3 hf g h1 h2 hd hn h0 λh' hL=>?_;obtain x04|k1|Dn|k3|k4:=hL;obtain x03|u_|u_|k2:=Dn;exact fin h' k1 k2 (hc▸k3) k4
 ·exact wpAny_leaves_onW hfr hf (i04 h1 h2 h3 ht) λh' hF hu=>fin h' hF.1 hF.2.2.1 hF.2.2.2 hu
end
section
open PyProof.Rows.LSm
theorem HT(Y:List Addr):∀ {vs:List Value} {us:List V},lI vs=some us->VsR Y us vs:=by
 intro vs
 induction vs with
 | nil=>intro us h;cases h;trivial
 | cons v r ih=>
  intro us h;have h:(match jI v,lI r with | some u,some us=>some (u::us) | _,_=>none)=some us:=h;cases h1:jI v with
  | none=>rw [h1] at h;exact nos h
  | some u=>cases h2:lI r with
   | none=>rw [h1,h2] at h;exact nos h
   | some us'=>
    rw [h1,h2] at h;cases h;exact ⟨BG h1 Y,ih h2⟩
theorem oV(Y:List Addr){s:Shared}{fd:FuncData}{ds:List V}(X:K.In s.heap)(hds:AJ K fd=some ds):∃ zs,VsR Y ds zs/\∀ {M:Model} {A:Around} {E:Value->Shared->Prop} {Q:Option (Array Value)->Shared->Prop},(∀ o,(Option.getD o #[]).toList=zs->Q o s)->wpAny M A (seqItems? fd.defaults) Q E s:=by
 unfold AJ at hds;cases hdf:fd.defaults with
 | none=>
  rw [hdf] at hds;cases hds;exact i12 [] trivial λ{M A E Q} h=>aG (h none rfl)
 | ref t=>
  rw [hdf] at hds;dsimp only at hds;cases hk:K.lookup t with
  | none=>rw [hk] at hds;exact nos hds
  | some o=>
   rw [hk] at hds;obtain ⟨c,dd,d,sl⟩:=o
   induction d with
   | seq vs n=>
    by_cases hc:c= .type "tuple"
    ·have hds:(if c= .type "tuple" then lI vs.toList else none)=some ds:=hds;rw [aN hc] at hds;subst hc;exact i12 _ (HT Y hds) λ{M A E Q} h=>wpAny_seqItems (X _ _ hk) rfl (h _ rfl)
    ·have hds:(if c= .type "tuple" then lI vs.toList else none)=some ds:=hds;rw [aJ hc] at hds;exact nos hds
   | _=>exact nos hds
 | _=>rw [hdf] at hds;exact nos hds
theorem nS{s:Shared}{fd:FuncData}{args:List V}(X:K.In s.heap)(hp:AC fd.params=true)(hd:(fd.params.args.map (·.arg)).Nodup)(hf:JC K fd args=some vs)(hx:VsR Y args xs):
  ∃ ys,VsR Y vs ys/\∀ {M:Model} {A:Around} {E:Value->Shared->Prop} {Q:List (Str×Value)->Shared->Prop},Q ((fd.params.args.map (·.arg)).zip ys) s->wpAny M A (bindArgs fd ⟨xs,[]⟩) Q E s:=by
 unfold JC at hf;cases hds:AJ K fd with
 | none=>rw [hds] at hf;exact nos hf
 | some ds=>
  rw [hds] at hf;dsimp only at hf;obtain x12|zs|hz|hseq:=oV Y X hds;have l1:=hx.length;have l2:=hz.length;by_cases h1:args.length=fd.params.args.length/\ds.length<=args.length
  ·rw [aN h1] at hf;cases hf;refine i12 xs hx λ{M A E Q} q=>pJ hp hd hseq (.inl ⟨l1▸h1.1,l1▸l2▸h1.2⟩) ?_;rw [aN (l1▸h1.1)];exact q
  ·rw [aJ h1] at hf;by_cases h2:args.length+ds.length=fd.params.args.length
   ·rw [aN h2] at hf;cases hf;refine i12 (xs++zs) (hx.append hz) λ{M A E Q} q=>pJ hp hd hseq (.inr (l1▸l2▸h2)) ?_;split
    ·rename_i h3;have:zs= []:=List.eq_nil_of_length_eq_zero (l2▸Nat.add_left_cancel (h2.trans (h3.symm.trans l1.symm)));subst this;rw [eW] at q;exact q
    ·exact q
   ·rw [aJ h2] at hf;cases hf
section
variable {G:Ground} {C:Addr} {kp:Kept} {s s':S} {r:Shared}
theorem JP{M:Model}{Q:List (Str×Addr)->Shared->Prop}(f:Str×NameKind->List (Str×Addr)->Sem (ForInStep (List (Str×Addr))))
  (hf:∀ name kind cells,f (name,kind) cells=if kind== .cell then (do let a<-PySem.alloc {cls:= .type "cell",data:= .cell none};pure (.yield ((name,a)::cells))) else pure (.yield cells)):
  ∀ (names:List (Str×NameKind)) {Y:List Addr} {acc cells:List (Str×Nat)} {accR:List (Str×Addr)} {s:S} {r:Shared},St G C kp Y s r->CellsR Y acc accR->LB names acc s=some (.ok cells,s')->
   (∀ Y' cellsR r',Ext Y Y'->CellsR Y' cells cellsR->St G C kp Y' s' r'->(∀ b o,r.heap.get? b=some o->r'.heap.get? b=some o)->Q cellsR r')->wpAny M A (forIn names accR f) Q E r:=by
 intro names
 induction names with
 | nil=>
  intro Y acc cells accR s r st ha h k;cases h;rw [List.forIn_nil];exact aG (k Y accR r (Ext.refl _) ha st λZ Z e=>e)
 | cons z0 ns ih=>
  intro Y acc cells accR s r st ha h k;obtain ⟨x,kd⟩:=z0;rw [fJ,hf];rw [SM] at h;by_cases hk:(kd==NameKind.cell)=true
  ·rw [aN hk] at h ⊢;rw [nA (a:=s.h.length) (s₁:={s with h:=s.h++ [.cell none]}) rfl] at h;refine aA (aA (wpAny_alloc (aG ?_)));have Al:St G C kp (Y++ [r.heap.objs.size]) {s with h:=s.h++ [.cell none]} {r with heap:=r.heap.push {cls:= .type "cell",data:= .cell none}}:=
    st.alloc (tk:=r.toks) (λb o e=>aM _ e) Heap.fresh_none (bC _ rfl) (i12 none rfl trivial) (aV st.big)
   exact ih (acc:=(x,s.h.length)::acc) Al (i03 rfl (by rw [<-st.len];simp) (ha.mono (Ext.one _ _))) h λY' cr r' x hc st' kk=>k Y' cr r' ((Ext.one _ _).trans x) hc st' λb o e=>kk b o (aM _ e)
  ·rw [aJ hk] at h ⊢;exact aA (aG (ih st ha h k))
theorem DP{U:Lev}{J:Ev}{Q:PUnit->Shared->Prop}(hs:U.env.scope=J.scope)(hkd:J.scope.kind= .function)(f:Str×Value->PUnit->Sem (ForInStep PUnit))(hf:∀ n v u,f (n,v) u=(do storeName U.env n v;pure (.yield ⟨⟩))):
  ∀ (ns:List Str) {Y:List Addr} {vs:List V} {ys:List Value} {s:S} {r:Shared},StL U Y s r->CellsR Y J.cells U.env.cells->VsR Y vs ys->CB J (ns.zip vs) s=some (.ok (),s')->
   (∀ Y' r',Ext Y Y'->StL U Y' s' r'->Q ⟨⟩ r')->wpAny (model U.prog U.G.w) U.A (forIn (ns.zip ys) ⟨⟩ f) Q E r:=by
 intro ns
 induction ns generalizing E with
 | nil=>
  intro Y vs ys s r st hc hv h k;cases h;exact aG (k Y r (Ext.refl _) st)
 | cons n ns ih=>
  intro Y vs ys s r st hc hv h k
  induction vs using lCq with
  | nil=>induction ys using lCq with
   | nil=>
    cases h;exact aG (k Y r (Ext.refl _) st)
   | cons=>exact hv.elim
  | cons v vs=>induction ys using lCq with
   | nil=>exact hv.elim
   | cons y ys=>
    rw [fR,fJ,hf];obtain x22|u|s1|h3|h4:=tD (show (NB J n v >>=λZ=>CB J (ns.zip vs)) s=_ from h);refine aA (aA (wpAny_noRaise ((EN hs hkd hc n hv.1).okRun (Ext.refl _) st h3 λY1 Z r1 x1 Al Z=>aG ?_)));exact fG (ih (E:=λZ Z=>False) Al (hc.mono x1) (hv.2.mono x1) h4 λY' r' x'=>k Y' r' (x1.trans x')) (λZ Z h=>h) λZ Z h=>h.elim
theorem pV{U:Lev}{J:Ev}{Q:Env->Shared->Prop}{scope:Scope}{ns:List Str}{ys:List Value}{cells:List (Str×Nat)}{s1 s2:S}{globals builtins:Addr}{qual:Str}{func:Option Addr}{code:Value}
  (st:StL U Y s r) (hr:J.scope=scope) (hJj:J.cells=cells) (hkd:scope.kind= .function) (hv:VsR Y vs ys) (h1:LB scope.names [] {s with l:= []}=some (.ok cells,s1)) (h2:CB J (ns.zip vs) s1=some (.ok (),s2))
  (k:∀ m Y' clos r',Ext Y Y'->CellsR Y' cells clos->LocR Y s.l m->St U.G r.heap.objs.size ((U.env.locals,m)::U.kp) Y' s2 r'->Q (newEnv scope r.heap.objs.size globals clos qual func code none builtins) r'):
  wpAny (model U.prog U.G.w) A (newFunctionEnv scope globals [] (ns.zip ys) qual func code none builtins) Q E r:=by
 obtain x12|m|hm|hlo:=st.ns;unfold newFunctionEnv;dsimp only [Option.isSome_none];rw [aJ aW];refine aA (wpAny_alloc ?_);have st0:St U.G r.heap.objs.size ((U.env.locals,m)::U.kp) Y {s with l:= []} {r with heap:=r.heap.push {cls:= .type "frame",data:= .dict #[]}}:=
  st.enter (tk:=r.toks) hm (λb o g=>aM _ g) Heap.fresh_none (Heap.Ns.new r.heap (.type "frame")) st.big [] (λZ Z h=>by cases h)
 refine aA (JP _ (λname kind cells=>by cases hkc:kind==NameKind.cell <;> simp [hkc]) scope.names st0 (acc:= []) trivial h1 λY1 clos r1 x1 hc Al kk=>?_);refine aA ?_;subst hr hJj;refine DP (U:={U with A:=A,env:=newEnv J.scope r.heap.objs.size globals clos qual func code none builtins,kp:=(U.env.locals,m)::U.kp}) rfl hkd _ (λZ Z Z=>rfl) ns Al hc (hv.mono x1) h2 λY2 r2 x2 Aq=>aG ?_;exact k m Y2 clos r2 (x1.trans x2) (hc.mono x2) hlo Aq
theorem OkA.call{U:Lev}{m:Str->Option Value}{L:Addr}(h:OkA U (d+1))(hk:env.scope.kind≠ .module)(hf:env.frame=some L)(hL:env.locals=L):OkA (U.call (U.A.deeper env) env m) d where
 frames:=Around.frames_deeper h.frames
 handled:=h.handled
 depth:=dp (by decide) h.depth
 units:=dp (by decide) h.units
 cover:=λenv' he=>by
  rcases aZ.mp he with rfl | he
  ·exact ⟨hk,L,hf,.inl hL.symm⟩
  ·obtain x02|a|Dq:=h.cover env' he;obtain x12|L'|b|c:=Dq;refine ⟨a,L',b,.inr ?_⟩;rcases c with rfl | ⟨q,hq,rfl⟩
   ·exact i12 _ (.head _) rfl
   ·exact i12 q (.tail _ hq) rfl
theorem ON:∀ {ns:List (Str×NameKind)} {acc:List (Str×Nat)} {s:S} {C:Addr} {s':S},LB ns acc s≠some (.exc C,s'):=by
 intro ns
 induction ns with
 | nil=>intro acc s C s' h;cases h
 | cons q ns ih=>
  intro acc s C s' h;obtain ⟨x,k⟩:=q;rw [SM] at h;by_cases hk:(k==NameKind.cell)=true
  ·rw [aN hk] at h;rcases VG h with h | ⟨a,s1,h1,h2⟩
   ·cases h
   ·exact ih h2
  ·rw [aJ hk] at h;exact ih h
theorem OO{J:Ev}{s:S}{C:Addr}{s':S}:NB J x v s≠some (.exc C,s'):=λh=>by
 unfold NB at h;cases hk:J.scope.names.lookup x with
 | none=>rw [hk] at h;exact nos h
 | some k=>
  rw [hk] at h
  induction k with
  | «local»=>cases h
  | cell=>
   have h:(iG J x >>=λc=>CX c >>=λo=>match o with | .cell _=>GX c (.cell (some v)) | _=>EX) s=some (.exc C,s'):=h;rcases VG h with h | ⟨n,s1,h1,h2⟩
   ·unfold iG DX at h;cases hx:J.cells.lookup x <;> rw [hx] at h <;> cases h
   ·refine GD h2 λo Z h4=>?_
    induction o with
    | cell u=>
     change (if _ then _ else _)=_ at h4;split at h4 <;> cases h4
    | _=>exact nos h4
  | _=>exact nos h
theorem LN{J:Ev}:∀ {bs:List (Str×V)} {s:S} {C:Addr} {s':S},CB J bs s≠some (.exc C,s'):=by
 intro bs
 induction bs with
 | nil=>intro s C s' h;cases h
 | cons q r ih=>
  intro s C s' h;obtain ⟨x,v⟩:=q;rcases VG (show (NB J x v >>=λZ=>CB J r) s=_ from h) with h | ⟨a,s1,h1,h2⟩
  ·exact OO h
  ·exact ih h2
theorem UF{l:List (Str×V)}{m:M α}{s:S}:HX l m s=match m {s with l:=l} with | none=>none | some (r,s')=>some (r,{s' with l:=s.l}):=rfl
def SimV(U:Lev)(Y0:List Addr)(m:M V)(c:Code):Prop:=
 ∀ (Y:List Addr) (s:S) (r:Shared) (R:Result->Shared->Prop),Ext Y0 Y->StL U Y s r->m s≠none->
  (∀ v s',m s=some (.ok v,s')->∀ Y' b r',Ext Y Y'->StL U Y' s' r'->VR Y' v b->R (.ok (.ret b)) r')->
  (∀ c s',m s=some (.exc c,s')->∀ Y' e r',Ext Y Y'->Flies U Y' s' c e r'->R (.error (.ref e)) r')->codeAny (model U.prog U.G.w) U.A c R r
theorem SimV.sim{U:Lev}{Y0:List Addr}{m:M V}{f:Value}(h:SimV U Y0 m (.call f ⟨xs,[]⟩)):Sim U Y0 VR m (call f xs):=
 ⟨λY s r Q E ex st Z nn ok exc=>wpAny_call (h Y s r _ ex st nn ok exc)⟩
theorem QS{cs:List (Addr×Addr×Str)}{fd:FuncData}{q:Addr×Addr×Str}(h:lqOf cs fd=some q):∃ c,fd.code= .ref c/\(cs.find? λp=>decide (p.1=c/\p.2.2=fd.qualname++".<locals>."++"<lambda>"))=some q:=by
 have h:(match fd.code with | .ref c=>cs.find? λp=>decide (p.1=c/\p.2.2=fd.qualname++".<locals>."++"<lambda>") | _=>none)=some q:=h
 revert h
 refine genI fd.code ?_;intro code h
 induction code with
 | ref c=>exact i12 c rfl h
 | _=>exact nos h
theorem QM{U:Lev}{Y0:List Addr}{F:Fns}{fo:Obj}{fd:FuncData}{args:List V}(W:Wd U.G K)(So:Sound U.prog U.G F)(h:OkA U (d+1))(ha:K.lookup a=some fo)(hd:fo.data= .func fd)(hx:VsR Y0 args xs):
  SimV U Y0 (SC K U.G.cs F fd args d) (.call (.ref a) ⟨xs,[]⟩):=by
 unfold SC;cases hb:fd.body with
 | stmts body=>
  cases hvs:JC K fd args with
  | none=>exact λZ Z Z Z Z Z nn=>aS rfl nn
  | some vs=>
  dsimp only;intro Y s r R ex st nn okk exc;cases ok:fdOk K fd with
  | false=>rw [ok] at nn;exact aS rfl nn
  | true=>
  rw [ok,nA (a:=()) (s₁:=s) rfl] at nn okk exc;unfold fdOk at ok;simp only [Bool.and_eq_true,Bool.not_eq_true',beq_iff_eq,List.isEmpty_iff,decide_eq_true_eq] at ok;obtain x02|Dp|o9:=ok;obtain x02|Dt|o8:=Dp;obtain x02|Du|o7:=Dt;obtain ⟨⟨⟨⟨⟨o1,o2⟩,o3⟩,o4⟩,o5⟩,o6⟩:=Du;have o6:fd.scope.kind= .function:=by simpa using o6
  obtain x51|p|loose|nY|mg|mb|T:=W.T;have X:=W.X.keeps st.base;obtain x12|ys|hy|hbind:=nS X o1 o2 hvs (hx.mono ex);have qY:U.A.depth < recursionLimit:=room h.depth;rw [UF] at nn;cases h1:LB fd.scope.names [] {s with l:= []} with
  | none=>refine aS ?_ nn;rw [QA h1]
  | some q=>
  obtain ⟨res,s1⟩:=q
  induction res with
  | exc c=>exact aS h1 ON
  | ok cells=>
  rw [nA h1] at nn;cases h2:CB {scope:=fd.scope,cells,d,lq:=lqOf U.G.cs fd,stm:=true} ((fd.params.args.map (·.arg)).zip vs) s1 with
  | none=>refine aS ?_ nn;rw [QA h2]
  | some q=>
  obtain ⟨res,s2⟩:=q
  induction res with
  | exc c=>exact aS h2 LN
  | ok u=>
  rw [nA h2] at nn;have run:∀ (res:Res V) (s3:S),(F.exs body {scope:=fd.scope,cells,d,lq:=lqOf U.G.cs fd,stm:=true} >>=λf=>match f with | .next=>Pure.pure V.none | .ret v=>Pure.pure v) s2=some (res,s3)->
    HX [] (LB fd.scope.names [] >>=λcells=>CB {scope:=fd.scope,cells,d,lq:=lqOf U.G.cs fd,stm:=true} ((fd.params.args.map (·.arg)).zip vs) >>=λZ=>F.exs body {scope:=fd.scope,cells,d,lq:=lqOf U.G.cs fd,stm:=true} >>=λf=>match f with | .next=>Pure.pure V.none | .ret v=>Pure.pure v) s=some (res,{s3 with l:=s.l}):=λres s3 h3=>by
   rw [UF,nA h1,nA h2,h3]
  refine codeAny_call_function qY (X _ _ ha) hd o4 o5 hb (codeRec_of X o9) (hbind ?_);rw [o3];refine pV (J:={scope:=fd.scope,cells,d,lq:=lqOf U.G.cs fd,stm:=true}) st rfl rfl o6 hy h1 h2 λm Y1 clos r1 x1 hc hlo Al=>⟨(T.nolimit).keeps Al.base,codeAny_func ?_⟩
  revert Al;refine genE (r.heap.objs.size) ?_;intro L hL Al
  refine genE (newEnv fd.scope L fd.globals clos (fd.qualname++".<locals>.") (some a) fd.code none fd.builtins) ?_;intro env Ad;have e1:env.scope=fd.scope:=by rw [<-Ad];rfl
  have e2:env.locals=L:=by rw [<-Ad];rfl
  have e3:env.frame=some L:=by rw [<-Ad];rfl
  have OA:OkA (U.call (U.A.deeper env) env m) d:=h.call (by rw [e1,o6];decide) e3 e2;have ER:EvR (U.call (U.A.deeper env) env m) Y1 {scope:=fd.scope,cells,d,lq:=lqOf U.G.cs fd,stm:=true}:=by
   refine {a:=OA,scope:=e1,kind:=o6,cells:=by rw [<-Ad];exact hc,glob:=by rw [<-Ad];exact o7,blt:=by rw [<-Ad];exact o8,head:=λZ=>i22 U.envs L rfl e3,lq:=λq hq=>?_};obtain x12|c|hcd|hq:=QS hq;have m1:=fV hq;obtain x02|m2|m3:=aX m1;exact i03 (by rw [<-Ad];exact hcd.trans (by rw [m2])) (by rw [<-Ad];exact m3.symm) (gF hq)
  have Bh:∀ q∈U.kp,q.1≠U.env.locals:=λq hq=>(st.kept q hq).2.1;have Al':StL (U.call (U.A.deeper env) env m) Y1 s2 r1:=by show St U.G env.locals _ Y1 s2 r1;rw [e2];exact Al
  refine (So.exs (U.call (U.A.deeper env) env m) _ Y1 body rfl rfl ER).run Y1 s2 r1 _ _ (Ext.refl _) Al' PassesOwn.leaving (bind_some (λz=>nn (by rw [z]))) (λf s3 h3 Y2 f' r2 x2 Aq hf=>?_) (λc s3 h3 Y2 e r2 x2 fl=>?_)
  ·have back:=λ(v:V)=>Aq.leave (l:=s.l) ((hlo.mono x1).mono x2) Bh
   induction hf with
   | next=>exact okk _ _ (run (.ok .none) s3 (by rw [nA h3];rfl)) Y2 _ r2 (x1.trans x2) (back .none) rfl
   | ret hv=>exact okk _ _ (run (.ok _) s3 (by rw [nA h3];rfl)) Y2 _ r2 (x1.trans x2) (back .none) hv
  ·exact fl.leaves (U:=U) ((hlo.mono x1).mono x2) Bh OA.frames e3 λr3 fl'=>exc _ _ (run (.exc c) s3 (EA h3)) Y2 e r3 (x1.trans x2) fl'
 | _=>exact λZ Z Z Z Z Z nn=>aS rfl nn
theorem FP{U:Lev}{Y0:List Addr}{F:Fns}{x:Value}(W:Wd U.G K)(So:Sound U.prog U.G F)(h:OkA U (d+1))(hx:VR Y0 (.ref n) x):Sim U Y0 VR (uJ F n d) (call x []):=by
 refine Sim.of_at λY s r ex st=>?_;obtain x12|a|ea|rfl:=hx;have ea:=ex.get ea;unfold uJ;refine At.geto λo ho=>?_
 induction o with
 | lam body scope cells=>
  refine At.need λok=>⟨λQ E pe nn okk exc=>?_⟩;simp only [Bool.and_eq_true,Bool.not_eq_true',beq_iff_eq,List.all_eq_true,bne_iff_ne] at ok;obtain x02|Do|o4:=ok;obtain x02|Ds|o3:=Do;obtain x02|o1|o2:=Ds;have o1:scope.kind= .function:=by simpa using o1
  obtain x51|p|loose|nY|mg|mb|T:=W.T;obtain x12|ob|g|Dn:=st.at ho (ndd rfl) ea;obtain x51|qual|clos|pm|c|ct|Dr:=Dn;obtain x02|rfl|De:=Dr;obtain x13|ts|tb|hts|lm:=st.more;obtain x33|oc|vs|tq|m1|d1|e1:=lm n body scope cells a _ ho ea g _ _ _ _ _ _ _ rfl;have qY:U.A.depth < recursionLimit:=room h.depth;rw [UF] at nn;refine wpAny_call (kla_callFunE qY g rfl o2 o3 rfl ((i44 c oc vs tq rfl (hts _ m1).1 d1 e1):r.heap.CodeRec (.ref c) qual) ?_);rw [show bindArgs (kla_fn "<lambda>" qual ⟨[],[],none,[],[],none,[]⟩ body scope clos pm (.ref c) ct) ⟨[],[]⟩=pure [] from rfl];refine aG (wpAny_newFunctionEnv o4 (λy hy=>by cases hy) (λh' Be hsb=>⟨((T.nolimit).keeps st.base).fresh _ hsb,?_⟩) o1);obtain x12|m|hm|hlo:=st.ns;have hk:∀ b o,r.heap.get? b=some o->h'.get? b=some o:=λb o e=>hsb.extBut b o (bG (cP e)) (aM _ e);have Al:=st.enter (tk:=r.toks+0) hm hk Heap.fresh_none Be st.big [] (λy v h=>by cases h)
  revert Be hsb Al;refine genE (r.heap.objs.size) ?_;intro L hL Be hsb Al
  refine genE (newEnv scope L mainGlobals clos (qual++".<locals>.") (some a) (.ref c) none builtinsNs) ?_;intro env Ad;have e1:env.scope=scope:=by rw [<-Ad];rfl
  have e2:env.locals=L:=by rw [<-Ad];rfl
  have e3:env.frame=some L:=by rw [<-Ad];rfl
  have OA:OkA (U.call (U.A.deeper env) env m) d:=h.call (by rw [e1,o1];decide) e3 e2;have ER:EvR (U.call (U.A.deeper env) env m) Y {scope,cells,d}:={a:=OA,scope:=e1,kind:=o1,cells:=by rw [<-Ad];exact De,glob:=by rw [<-Ad];rfl,blt:=by rw [<-Ad];rfl,head:=λh=>aS h aW,lq:=λq hq=>by cases hq};have Bh:∀ q∈U.kp,q.1≠U.env.locals:=λq hq=>(st.kept q hq).2.1;have Al':StL (U.call (U.A.deeper env) env m) Y {s with l:= []} {r with heap:=h',toks:=r.toks+0}:=by show St U.G env.locals _ Y _ _;rw [e2];exact Al
  have run:∀ (res:Res V) (s3:S),F.ev body {scope,cells,d} {s with l:= []}=some (res,s3)->HX [] (F.ev body {scope,cells,d}) s=some (res,{s3 with l:=s.l}):=λres s3 h3=>by rw [UF,h3]
  refine kla_codeExpr ((So.ev (U.call (U.A.deeper env) env m) _ Y body rfl rfl ER).run Y _ _ _ _ (Ext.refl _) Al' PassesOwn.leaving (λz=>nn (by rw [z])) (λv s3 h3 Y2 y r2 x2 Aq hv=>?_) (λc s3 h3 Y2 e r2 x2 fl=>?_))
  ·exact okk _ _ (run (.ok v) s3 h3) Y2 _ r2 x2 (Aq.leave (l:=s.l) (hlo.mono x2) Bh) hv
  ·exact fl.leaves (U:=U) (hlo.mono x2) Bh OA.frames e3 λr3 fl'=>exc _ _ (run (.exc c) s3 h3) Y2 e r3 x2 fl'
 | _=>exact At.fail
theorem FW{U:Lev}{Y0:List Addr}{F:Fns}{fi:Addr}{o1:Value}{o2:Option Addr}{fd:FuncData}{o3:Array (Option Value)}{args:List V}(W:Wd U.G K)(So:Sound U.prog U.G F)(h:OkA U (d+2))(hx:VsR Y0 args xs)(hi:findIn K (.ref a) "__init__"=some (some (.ref fi)))(hfd:K.lookup fi=some ⟨o1,o2,.func fd,o3⟩):
  Sim U Y0 VR (BX (makesIn K a && isFn K (.ref fi)) >>=λZ=>FX (.dict [] 0) >>=λdx=>FX (.inst a dx) >>=λx=>SC K U.G.cs F fd (.ref x::args) d >>=λv=>match v with | .none=>Pure.pure (.ref x) | _=>EX) (call (.ref a) xs):=by
 refine Sim.need λhn=>⟨λY s r Q E ex st pe nn ok exc=>?_⟩;rw [bY] at hn;obtain x02|hm|hf:=hn;have hf:typeIn K (.ref fi)=some (.type "function"):=by unfold isFn at hf;simpa using hf
 have X:=W.X.keeps st.base;obtain ⟨hh,g,dr,t,os⟩:=r;have e1:(FX (.dict [] 0):M Nat) s=some (.ok s.h.length,{s with h:=s.h++ [.dict [] 0]}):=rfl;have e2:(FX (.inst a s.h.length):M Nat) {s with h:=s.h++ [.dict [] 0]}=some (.ok (s.h.length+1),{s with h:=s.h++ [.dict [] 0]++ [.inst a s.h.length]}):=by
  show some (Res.ok (s.h++ [O.dict [] 0]).length,_)=_;rw [bA];rfl
 rw [nA e1,nA e2] at nn ok exc;have Al:StL U (Y++ [hh.objs.size]) {s with h:=s.h++ [.dict [] 0]} ⟨hh.push emptyDict,g,dr,t,os⟩:=
  st.alloc (tk:=t) (λb o e=>aM _ e) Heap.fresh_none (bC _ rfl) (i03 (i03 rfl rfl rfl) (i12 [] rfl trivial) List.Pairwise.nil) (aV st.big)
 have Aq:StL U (Y++ [hh.objs.size]++ [hh.objs.size+1]) {s with h:=s.h++ [.dict [] 0]++ [.inst a s.h.length]} ⟨(hh.push emptyDict).push (instObj a hh.objs.size),g,dr,t,os⟩:=by
  have:=Al.alloc (tk:=t) (o:= .inst a s.h.length) (a:=(hh.push emptyDict).objs.size) (ob:=instObj a hh.objs.size) (λb o e=>aM _ e) Heap.fresh_none (bC _ rfl) (i12 hh.objs.size (pE (by rw [<-st.len];simp)) rfl) (aV Al.big)
  rwa [gZ] at this
 have x2:Ext Y (Y++ [hh.objs.size]++ [hh.objs.size+1]):=(Ext.one _ _).trans (Ext.one _ _);have hl:(Y++ [hh.objs.size]++ [hh.objs.size+1])[s.h.length+1]? =some (hh.objs.size+1):=by
  rw [<-st.len];simp
 have OA:OkA {U with A:=U.A.under (.builtin "type.__call__" ⟨.ref a::xs,[]⟩)} (d+1):=by
  refine {frames:=h.frames,handled:=h.handled,depth:=?_,units:=?_,cover:=h.cover}
  ·exact dp (k:=1) (by decide) h.depth
  ·exact dp (k:=1) (by decide) h.units
 refine wpAny_call (make_core (makes_of X hm) (looks_findIn X hi) (λself=>bind_fn X self hf) (.inl rfl) ?_);refine QM (U:={U with A:=U.A.under (.builtin "type.__call__" ⟨.ref a::xs,[]⟩)}) (Y0:=Y++ [hh.objs.size]++ [hh.objs.size+1]) W So OA hfd rfl (args:= .ref (s.h.length+1)::args) (xs:= .ref (hh.objs.size+1)::xs) ⟨i12 _ hl rfl,hx.mono (ex.trans x2)⟩ _ _ _ _ (Ext.refl _) Aq (bind_some nn) (λv s3 h3 Y3 b r3 x3 Bf hv=>?_) (λc s3 h3 Y3 e r3 x3 fl=>?_)
 ·rw [nA h3] at nn ok exc
  induction v <;> first | exact aS rfl nn | skip
  refine ⟨hv,?_⟩;exact ok _ _ rfl Y3 _ r3 (x2.trans x3) Bf (i12 _ (x3.get hl) rfl)
 ·exact exc c s3 (EA h3) Y3 e r3 (x2.trans x3) ⟨fl.st,fl.fly⟩
theorem GW{U:Lev}{Y0:List Addr}{F:Fns}{args:List V}(W:Wd U.G K)(So:Sound U.prog U.G F)(h:OkA U (d+2))(hx:VsR Y0 args xs):
  Sim U Y0 VR (RS K U.G.cs F a args d) (call (.ref a) xs):=by
 unfold RS;cases hi:findIn K (.ref a) "__init__" with
 | none=>exact Sim.fail
 | some w=>induction w with
  | none=>exact Sim.fail
  | some v=>induction v with
   | ref fi=>
    dsimp only;cases hfd:K.lookup fi with
    | none=>exact Sim.fail
    | some o=>
    obtain ⟨o1,o2,dt,o3⟩:=o
    induction dt with
    | func fd=>
     dsimp only;exact FW W So h hx hi hfd
    | _=>exact Sim.fail
   | _=>exact Sim.fail
end
end
section
open PySem
theorem uM(self:Value):refuseLoop self "__setattr__" [.type "Exception",.type "BaseException",.type "object"]=pure ():=by
 unfold refuseLoop;kernel_rfl
theorem yF{l:List Value}(h:OB l=true):l= [.type "Exception",.type "BaseException",.type "object"]\/∃ c r,l= .ref c::r/\OB r=true:=by
 induction l using lCq with
 | nil=>cases h
 | cons v r=>
  unfold OB at h;rw [List.dropWhile_cons] at h;cases e:AW v with
  | true=>
   rw [e] at h
   induction v with
   | ref a=>exact .inr (i22 _ _ rfl h)
   | _=>exact aS e aW
  | false=>
   rw [e] at h;exact .inl (eq_of_beq h)
theorem UC:∀ (n:Nat) {l:List Value},l.length<=n->OB l=true->l.contains (.type "object")=true/\l.contains (.type "Exception")=true/\l.contains (.type "BaseException")=true/\l.contains (.type "AttributeError")=false/\l.contains (.type "NameError")=false/\∀ self,refuseLoop self "__setattr__" l=pure ():=by
 intro n
 induction n with
 | zero=>
  intro l hn h;rcases yF h with rfl | ⟨c,r,rfl,h'⟩ <;> simp at hn
 | succ n ih=>
  intro l hn h;rcases yF h with rfl | ⟨c,r,rfl,h'⟩
  ·refine i06 (by decide) (by decide) (by decide) (by decide) (by decide) uM
  ·obtain x06|a1|a2|a3|a4|a5|a6:=ih (by simpa using hn) h';refine i06 ?_ ?_ ?_ ?_ ?_ λself=>?_
   ·rw [dF,a1,hV]
   ·rw [dF,a2,hV]
   ·rw [dF,a3,hV]
   ·rw [dF,a4];rfl
   ·rw [dF,a5];rfl
   ·rw [refuseLoop_ref,a6]
section
variable {R:Result->Shared->Prop} {h:Heap} {g:Array GenState} {d:Drawn} {t:Nat} {os:OsState}
variable {nm q:Str} {C N:Addr} {bs bm:List Value} {hdct:Bool} {sn:List Str} {sub:List Value} {ab:Bool} {col:Option Bool} {dd:Option Addr} {k0 k1 k2 k3 k5:Option Value}
theorem nQ{M:Model}{iY:List Value}{Q:Unit->Shared->Prop}(T:OB bm=true)(hC:h.get? C=some (excClassObj nm q C N bs bm hdct sn sub ab col dd k0 k1 k2 k3 k5 "Exception.__new__"))
  (hq:Q () ⟨h,g,d,t,os⟩):wpAny M A (checkBuiltinCall "Exception.__new__" ⟨.ref C::iY,[]⟩) Q E ⟨h,g,d,t,os⟩:=
 wpAny_check_new_subU PySem.F.excBase_Exception (bmB:=bm) (UC _ (aY _) T).2.1 .base hC hq
theorem rV{iY:List Value}(T:OB bm=true)(hC:h.get? C=some (excClassObj nm q C N bs bm hdct sn sub ab col dd k0 k1 k2 k3 k5 "Exception.__new__"))
  (hq:R (.ok (.ret (.ref (h.objs.size+1)))) ⟨(h.push {cls:= .type "tuple",data:= .seq iY.toArray}).push
   {cls:= .ref C,data:= .fields #[.ref h.objs.size,.none,.none,.none,.bool false,.none]},g,d,t,os⟩) (hrest:iY.length<=sizeLine):
  codeAny (model prog w) A (.builtin "Exception.__new__" ⟨.ref C::iY,[]⟩) R ⟨h,g,d,t,os⟩:=by
 have Fn:=PySem.F.excBase_Exception;obtain x06|a1|a2|a3|a4|a5|u_:=UC _ (aY _) T;have hends:=Fn.ends;have hcB:(Value.ref C::bm).contains (.type "Exception")=true:=by rw [dF,a2,hV]
 have hcA:(Value.ref C::bm).contains (.type "AttributeError")=false:=by rw [dF,a4];rfl
 have hcN:(Value.ref C::bm).contains (.type "NameError")=false:=by rw [dF,a5];rfl
 refine codeAny_builtinAt Fn.entry ?_;unfold Builtin.«BaseException.__new__»;refine PySem.wpAt_bind ?_;show PySem.wpAt _ _ _ (stack >>=_) _ _ _;refine PySem.wpAt_bind (PySem.wpAt_stack λp below=>PySem.wpAt_of_wpAny ?_)
 wp_walk
 refine PySem.wpAt_of_wpAny ?_;rw [Fn.owner]
 repeat (first | with_reducible refine wpAny_madeHere_exc Fn.canon hC ?_ | with_reducible refine eF hC ?_ | (with_reducible refine gO hC ?_;first | rw [hcB] at ⊢ | rw [hcA] at ⊢ | rw [hcN] at ⊢) | wp_step)
 show R _ _;rw [gZ];exact hq
theorem BJ(T:OB bm=true){iY:List Value}{fI:Addr}{oI:Obj}{Q:Fin->Shared->Prop}
  (hC:h.get? C=some (excClassObj nm q C N bs bm hdct sn sub ab col dd k0 k1 k2 k3 k5 "Exception.__new__")) (hi:PySem.W.Looks (model prog w) h (typeLookup (.ref C) "__init__") (some (.ref fI)))
  (hfI:h.get? fI=some oI) (hfc:oI.cls= .type "function")
  (hq:∀ h' e,Heap.MadeExcOf h h' e (.ref C) iY->
   wpAny (model prog w) A (call (.ref fI) (.ref e::iY)) (λr s'=>r= .none/\Q (.done (.ret (.ref e))) s') E ⟨h',g,d,t,os⟩) (hrest:iY.length<=sizeLine):
  wpAny (model prog w) A (Builtin.«type.__call__» ⟨.ref C::iY,[]⟩) Q E ⟨h,g,d,t,os⟩:=by
 repeat (first | with_reducible refine eF hC ?_ | with_reducible refine wpAny_madeBy_exc hC ?_ | wp_step)
 refine codeAny_call_builtin_code (Code.quiet_builtin _ PySem.F.excBase_Exception.quiet) (nQ T hC ?_);refine rV T hC ?_ hrest;show wpAny _ _ _ _ _ _;have k1:∀ b o,h.get? b=some o->((h.push {cls:= .type "tuple",data:= .seq iY.toArray}).push {cls:= .ref C,data:= .fields #[.ref h.objs.size,.none,.none,.none,.bool false,.none]}).get? b=some o:=λb o e=>aM _ (aM _ e);have hC₁:=k1 _ _ hC;have hfI₁:=k1 _ _ hfI;have rZ:((h.push {cls:= .type "tuple",data:= .seq iY.toArray}).push
   {cls:= .ref C,data:= .fields #[.ref h.objs.size,.none,.none,.none,.bool false,.none]}).get? (h.objs.size+1)=some
   {cls:= .ref C,data:= .fields #[.ref h.objs.size,.none,.none,.none,.bool false,.none]}:=by heap_get
 have hcC:(Value.ref C::bm).contains (.ref C)=true:=by simp
 unfold isInstance
 repeat (first | with_reducible refine eF rZ ?_ | (with_reducible refine gO hC₁ ?_;rw [hcC]) | wp_step)
 show wpAny _ _ (typeLookup (.ref C) _) _ _ _;refine (hi.keeps k1).at ?_;refine bT (aA ?_);unfold bindSpecial;refine aA (wpAny_typeOf (T:="function") (i12 _ hfI₁ hfc) ?_);rw [aN (by decide)];refine aG (aA (fG (hq _ (h.objs.size+1) ⟨k1,Heap.get?_none_of_le (cE _),h.objs.size,rZ,Heap.get?_none_of_le (aY _),?_⟩) (λr s' hr=>?_) λZ Z x=>x))
 ·exact aM _ (Heap.get?_push_at rfl rfl)
 ·obtain x02|rfl|hQ:=hr
  wp_walk
  exact hQ
theorem BS(T:OB bm=true){iY:List Value}{fI:Addr}{oI:Obj}{Q:Value->Shared->Prop}
  (hC:h.get? C=some (excClassObj nm q C N bs bm hdct sn sub ab col dd k0 k1 k2 k3 k5 "Exception.__new__")) (hi:PySem.W.Looks (model prog w) h (typeLookup (.ref C) "__init__") (some (.ref fI)))
  (hfI:h.get? fI=some oI) (hfc:oI.cls= .type "function")
  (hq:∀ h' e,Heap.MadeExcOf h h' e (.ref C) iY->
   wpAny (model prog w) (A.under (.builtin "type.__call__" ⟨.ref C::iY,[]⟩)) (call (.ref fI) (.ref e::iY)) (λr s'=>r= .none/\Q (.ref e) s') E ⟨h',g,d,t,os⟩) (hrest:iY.length<=sizeLine):
  wpAny (model prog w) A (call (.ref C) iY) Q E ⟨h,g,d,t,os⟩:=by
 have f1:=tc_lookup;have f2:=PySem.tc_bind (.ref C);have hT:(⟨h,g,d,t,os⟩:Shared).TypeIs (.ref C) "type":=i12 _ hC rfl;refine wpAny_call (codeAny_of_tree ?_);show wpAny _ _ (callAny (.ref C) _) _ _ _
 repeat (any_goals (first | assumption | with_reducible refine eF hC ?_ | wp_step))
 refine ⟨rfl,?_⟩;refine codeAny_call_builtin_at (Code.quiet_builtin _ (by decide+kernel)) entry_typeCall (wpAny_check_type_call_sub hC (BJ (hrest:=hrest) T hC hi hfI hfc λh' e hm=>?_));exact hq h' e hm
section
variable {h:Heap} {g:Array GenState} {d:Drawn} {t:Nat} {os:OsState}
variable {nm q:Str} {C N:Addr} {bs bm:List Value} {hdct:Bool} {sn:List Str} {sub:List Value} {ab:Bool} {col:Option Bool} {dd:Option Addr} {k0 k1 k2 k3 k5:Option Value}
theorem qI(T:OB bm=true){M:Model}{e:Addr}{oe:Obj}{iY:List Value}{Q:Unit->Shared->Prop}
  (hC:h.get? C=some (excClassObj nm q C N bs bm hdct sn sub ab col dd k0 k1 k2 k3 k5 "Exception.__new__")) (he:h.get? e=some oe) (hcls:oe.cls= .ref C) (hq:Q () ⟨h,g,d,t,os⟩):
  wpAny M A (checkBuiltinCall "Exception.__init__" ⟨.ref e::iY,[]⟩) Q E ⟨h,g,d,t,os⟩:=by
 have F:=PySem.F.excBase_Exception;have hcB:(Value.ref C::bm).contains (.type "Exception")=true:=by rw [dF,(UC _ (aY _) T).2.1,hV]
 have hshort:=F.noStar;unfold checkBuiltinCall;rw [F.initKind,F.initSplit,F.initRow]
 repeat (first | (with_reducible refine eF he ?_;rw [hcls]) | with_reducible refine eF hC ?_ | (with_reducible refine gO hC ?_;rw [hcB]) | wp_step)
 refine wpAny_onRaise ?_;rw [show ∀ (a b:String) (n:Nat),Bind.check ⟨.positional,"*","Exception",.self,[⟨"args",.varPos,false⟩]⟩ a b n (List.map (λx=>x.fst) ({pos:=Value.ref e::iY}:Args).kw)=pure () from
  λa b n=>check_star_args _ _ _ _ _ _]
 exact aG hq
theorem CS(T:OB bm=true){e t0:Addr}{iY:List Value}{Q:Value->Shared->Prop}
  (hC:h.get? C=some (excClassObj nm q C N bs bm hdct sn sub ab col dd k0 k1 k2 k3 k5 "Exception.__new__")) (he:h.get? e=some {cls:= .ref C,data:= .fields #[.ref t0,.none,.none,.none,.bool false,.none]}) (hl:iY.length<=sizeLine)
  (hq:∀ h' t1,(∀ b o,b≠e->h.get? b=some o->h'.get? b=some o)->h'.get? e=some {cls:= .ref C,data:= .fields #[.ref t1,.none,.none,.none,.bool false,.none]}->Q .none ⟨h',g,d,t,os⟩):
  wpAny (model prog w) A (call (.builtin "Exception.__init__") (.ref e::iY)) Q E ⟨h,g,d,t,os⟩:=by
 have F:=PySem.F.excBase_Exception;refine wpAny_call (codeAny_call_builtin F.init.plain F.initEntry (qI T hC he rfl ?_));have hne:h.objs.size≠e:=aV (cP he);have he1:=aM (h:=h) {cls:= .type "tuple",data:= .seq iY.toArray} he
 wp_walk
 refine hq _ h.objs.size (λb o hb g=>?_) ?_
 ·rw [eZ _ _ (Ne.symm hb)];exact aM _ g
 ·rw [cL _ he1 rfl];rfl
end
section
variable {M:Model}
variable {nm q:Str} {C N:Addr} {bs bm:List Value} {hdct:Bool} {sn:List Str} {sub:List Value} {ab:Bool} {col:Option Bool} {dd:Option Addr} {k0 k1 k2 k3 k5:Option Value}
theorem qQ{s:Shared}{x:Sem Value}{Q:PySem.Flow->Shared->Prop}(T:OB bm=true)(hh:A.handled=none)
  (h:wpAny M A x (λv s₁=>∃ e t D,v= .ref e/\s₁.heap.get? C=some (excClassObj nm q C N bs bm hdct sn sub ab col dd k0 k1 k2 k3 k5 "Exception.__new__")/\
   s₁.heap.get? e=some {cls:= .ref C,dict:=some D,data:= .fields #[.ref t,.none,.none,.none,.bool false,.none]}/\E (.ref e) s₁) E s):
  wpAny M A (raiseStmt env (some x) none) Q E s:=by
 have hcB:(Value.ref C::bm).contains (.type "BaseException")=true:=by rw [dF,(UC _ (aY _) T).2.2.1,hV]
 unfold raiseStmt;refine aA (fG h (λv s₁ h₁=>?_) λZ Z x=>x);obtain x33|e|t|D|rfl|hC|Dn:=h₁;obtain x02|he|hE:=Dn;obtain ⟨hp,g,d,tk,os⟩:=s₁
 repeat (first | with_reducible refine eF he ?_ | with_reducible refine eF hC ?_ | (with_reducible refine gO hC ?_;rw [hcB]) | wp_step)
 exact wpAny_raiseNew_none hh hE
end
end
end
section
open PyProof.Rows.LSm Builtin Builtin.ObjectAttr
section
variable {C x:Addr} {s:Shared} {R:Result->Shared->Prop}
theorem xV{ox:Obj}{vs:Array Value}{name:Str}{v:Value}{b:V}(X:K.In s.heap)(I:InstAt s.heap x ox C none)(Cz:ox.dict=none)(hdd:ox.data= .fields vs)(hp:(clsIn K C).any (λcd=>OB cd.mro)=true)(ht:takerIn K C name=some none)(hh:hasDictIn K C=true)(hv:VR Y b v)
  (h:∀ h' tk,(∀ b o,b≠x->s.heap.get? b=some o->h'.get? b=some o)->(∃ D,h'.get? x=some {ox with dict:=some D})->R (.ok (.ret .none)) {s with heap:=h',toks:=tk}):
  codeAny (model prog w) A (.call (.builtin "object.__setattr__") ⟨[.ref x,.str name tk,v],[]⟩) R s:=by
 have SF:=PySem.F.store_object;obtain x12|cd|hc|ho:=any_some hp;obtain x06|a1|a2|a3|a4|a5|a6:=UC _ (aY _) ho;have ne:cd.mro.isEmpty=false:=by cases q:cd.mro with | nil=>rw [q] at ho;cases ho | cons _ _=>rfl
 have sub:Looks (model prog w) s.heap (isInstance (.ref x) (.type "object")) true:=I.type.andThen (looks_mroIn X (by unfold mroIn;rw [hc,Option.bind_some,aJ (by rw [ne];decide),a1]));refine codeAny_call_builtin SF.slot.plain SF.entry (@check_slot (model prog w) _ _ s "object.__setattr__" "object" "__setattr__" (.ref x) [.str name tk,v] [] _ SF.kind SF.split sub (SF.args (.ref x) (.str name tk) v) ?_);obtain x12|attr|ha|hr:=bX.mp ht;have hm:Looks (model prog w) s.heap (mroOf (.ref C)) cd.mro:=(looks_clsIn X hc).andThen .now;have L3:Looks (model prog w) s.heap (storeTaker? attr) none:=by
  induction attr with
  | none=>exact .now
  | some a=>
   obtain x12|b|hb|hb':=bH.mp hr;refine (looks_takesIn X hb).andThen ?_
   induction b with
   | true=>cases hb'
   | false=>exact .now
 rw [osa_eq,refuse_eq];refine aA (aA (I.type.here (aA (hm.here ?_))));rw [a6];refine aG (aA (I.type.here (aA ((looks_findIn X ha).here (aA (L3.here ?_))))));dsimp only;obtain x12|cd'|hc'|hd':=any_some hh;rw [hc] at hc';cases hc';have Ix:=I.at_;obtain ⟨oc,od,odt,osl⟩:=ox;have De:=I.cls;dsimp only at De Cz hdd;subst De Cz hdd;have g1:=aM (h:=s.heap) {cls:= .type "dict",data:= .dict #[]} Ix;have hne:s.heap.objs.size≠x:=aV (cP Ix);have g2:((s.heap.push {cls:= .type "dict",data:= .dict #[]}).update x λo=>{o with dict:=some s.heap.objs.size}).get? s.heap.objs.size=some {cls:= .type "dict",data:= .dict #[]}:=
  (eZ _ _ (Ne.symm hne)).trans (bC _ rfl)
 have g3:=cL (λo:Obj=>{o with dict:=some s.heap.objs.size}) g1 rfl;refine aA (aG (aA (aA (wpAny_loadPart Ix (aA ((looks_clsIn X hc).here ?_))))));rw [hd'];refine aA (wpAny_alloc (aA (wpAny_update g1 ?_)));refine aA (aG (aG ?_));refine aA (aG (aA ?_));unfold nsSet;refine aA (aA (wpAny_askSetting (aG (aA (wpAny_mkText (aA (wpAny_loadPart g2 ?_)))))));dsimp only;have OD:=NI (w:=w) prog (name:=name) (tk:=s.toks) (es:= []) (xs:= []) (ep:=0) (od:={cls:= .type "dict",data:= .dict #[]}) rfl hv trivial List.Pairwise.nil (i03 rfl rfl rfl) rfl;have c:(!(#[]:Array DictEntry).any (·.key.isStr name) && (#[]:Array DictEntry).any (·.refKey))=false:=by simp
 rw [aRefKeyMayBeTheName_at,c];refine wpAny_updatePart g2 ?_;have D':=cL (Obj.putName name (hashStr w name) (.str name s.toks) v) g2 (by obtain x03|u_|Dx|u_:=OD;obtain x12|xs'|h'|u_:=Dx;exact Obj.isFreed_of_dict h');refine aA (wpAny_lookBehind D' ?_ (aG ?_))
 ·obtain x03|u_|Dw|u_:=OD;obtain x12|xs'|h'|hr':=Dw;rw [h'];refine pastItsLine_dict ?_;rw [bU,<-hr'.length];exact aE (aY 1) (aE (show 1<=100000 by decide) (aE FA (cE _)))
 ·refine h _ _ (λb o hb g=>?_) ⟨s.heap.objs.size,?_⟩
  ·have hbs:s.heap.objs.size≠b:=aV (cP g);exact (eZ _ _ hbs).trans ((eZ _ _ (Ne.symm hb)).trans (aM _ g))
  ·exact (eZ _ _ hne).trans g3
theorem peel{m:List α->Prop}{l:List α}(h:l.length=n+1)(k:∀ a r,r.length=n->m (a::r)):m l:=by
 induction l using lCq with
 | nil=>cases h
 | cons a r=>exact k a r (Nat.succ.inj h)
@[elab_as_elim] theorem six {m:List α->Prop} {l:List α} (h:l.length=6) (k:∀ a b c d e f,m [a,b,c,d,e,f]):m l:=
 peel (m:=m) h λa l h=>peel (m:=(λr=>m (a::r))) h λb l h=>peel (m:=(λr=>m (a::b::r))) h λc l h=>peel (m:=(λr=>m (a::b::c::r))) h λd l h=>peel (m:=(λr=>m (a::b::c::d::r))) h λe l h=>peel (m:=(λr=>m (a::b::c::d::e::r))) h λf l h=>by rw [List.eq_nil_of_length_eq_zero h];exact k a b c d e f
theorem vP{o:Obj}{cd:ClassData}(h:ZR o=some cd):o.data= .cls cd:=by
 unfold ZR at h;cases e:o.data with
 | cls c=>rw [e] at h;cases h;rfl
 | _=>rw [e] at h;exact nos h
theorem FI{fi:Addr}{G:Prop}(h:AK K C fi=true)(fin:∀ nm q N bs bm hdct sn sub ab col dd k0 k1 k2 k3 k5,K.lookup C=some (excClassObj nm q C N bs bm hdct sn sub ab col dd k0 k1 k2 k3 k5 "Exception.__new__")->OB bm=true->(clsIn K C).any (λcd=>OB cd.mro)=true->hasDictIn K C=true->findIn K (.ref C) "__init__"=some (some (.ref fi))->typeIn K (.ref fi)=some (.type "function")->G):G:=by
 unfold AK at h;cases hK:K.lookup C with
 | none=>rw [hK] at h;cases h
 | some o=>
  rw [hK] at h;dsimp only at h;cases hd:ZR o with
  | none=>rw [hd] at h;cases h
  | some cd=>
  rw [hd] at h;replace hd:=vP hd;simp only [Bool.and_eq_true,Bool.not_eq_true',beq_iff_eq] at h;obtain x02|Dv|h6:=h;obtain x02|Du|h5:=Dv;obtain x02|Dy|h4:=Du;obtain ⟨⟨⟨⟨⟨⟨h0,h1⟩,h2⟩,h3⟩,h3'⟩,hz⟩,h4'⟩:=Dy;obtain ⟨nm,bs,mro,N,q,hdct,sn,sub,ab,col,hdel⟩:=cd;obtain ⟨c,dd,d,sl⟩:=o;dsimp only at h0 h1 h2 h3 h3' hd hz h4';subst h0 h1 hd;obtain ⟨bm,rfl⟩:∃ bm,mro= .ref C::bm:=by
   induction mro using lCq with
   | nil=>cases h3
   | cons v r=>exact ⟨r,by rw [Option.some.inj h3]⟩
  obtain ⟨l⟩:=sl
  revert hK h4';refine six (l:=l) hz ?_;intro k0 k1 k2 k3 k4 k5 h4' hK
  cases Option.some.inj h4';exact fin nm q N bs bm hdct sn sub ab col dd k0 k1 k2 k3 k5 hK h3' (by unfold clsIn;rw [hK];exact h2) h4 h5 h6
end
theorem LQ{s:Shared}{T:String}{name:Str}{v:Value}{pl:Sem Bool}{Q:Value×List Value->Shared->Prop}(X:K.In s.heap)(ht:typeOf (.type T)=pure (.type "type"))(hs:Manifest.isStub T=false)
  (e:findCls K (.type T) (.type "type") name=some (.val v)) (hh:handedIn v=true) (h:Q (v,[]) {s with toks:=s.toks+1}):wpAny (model prog w) A (getMethod (.type T) name pl) Q E s:=by
 have hstub:opaqueClassAbove (.type T)=pure none:=by unfold opaqueClassAbove;dsimp only;rw [hs];rfl
 have L0:Looks (model prog w) s.heap (typeOf (.type T)) (.type "type"):=Looks.of_pure ht;have hg:findIn K (.type "type") "__getattribute__"=some (some (.builtin "type.__getattribute__")):=type_tga;unfold getMethod specialOf;refine aA (aA (L0.here ((looks_findIn X hg).here ?_)));dsimp only;rw [aN canon_tga];refine aA (fG (Q:=λv=>Q (v,[])) (E:=E) ?_ (λZ Z z=>aG z) λZ Z z=>z);have LO:Looks (model prog w) s.heap (opaqueClassAbove (.type T)) none:=Looks.of_pure hstub;refine cls_open X LO L0 hg (looks_hook X (r:=none) (by rfl)) (by show subIn K _ _=_;rfl) e
  (aG (by show wpAny _ _ (handedOut v) _ _ _;rw [handedOut_of hh];exact aG h))
theorem ES:typeOf (.type "Exception")=pure (.type "type"):=by kernel_rfl
theorem DS:Manifest.isStub "Exception"=false:=by decide+kernel
theorem bel{β:Type}{x:Option α}{f:α->Option β}{y:β}{p:Prop}(h:x.bind f=some y)(k:∀ a,x=some a->f a=some y->p):p:=by
 induction x with
 | none=>exact nos h
 | some a=>exact k a rfl h
theorem DE{l:List α}{p:α×α}(h:TK l=some p):l= [p.1,p.2]:=by
 rcases l with _ | ⟨x,_ | ⟨y,_ | ⟨z,r⟩⟩⟩ <;> cases h;rfl
theorem tH{m:Expr->Prop}{e:Expr}{x:Const×Nat×Pos}(h:LL e=some x)(k:m (.Constant x.1 x.2.1 x.2.2)):m e:=by
 obtain x12|y|u_|rfl:=bH.mp (show (mN e).map (·.1)=some x from h);rw [y.2];exact k
theorem NO{m:Stmt->Prop}{e:Stmt}{x:Expr×Pos}(h:CU e=some x)(k:m (.Expr x.1 x.2)):m e:=by
 obtain x12|y|u_|rfl:=bH.mp (show (AR e).map (·.1)=some x from h);rw [y.2];exact k
theorem zR{m:Stmt->Prop}{e:Stmt}{x:List Expr×Expr×Pos}(h:RW e=some x)(k:m (.Assign x.1 x.2.1 x.2.2)):m e:=by
 obtain x12|y|u_|rfl:=bH.mp (show (BU e).map (·.1)=some x from h);rw [y.2];exact k
theorem BR{m:Stmt->Prop}{e:Stmt}{x:Option Expr×Pos}(h:SW e=some x)(k:m (.Return x.1 x.2)):m e:=by
 obtain x12|y|u_|rfl:=bH.mp (show (DU e).map (·.1)=some x from h);rw [y.2];exact k
theorem MN{e:FuncBody}{x:List Stmt}(h:ZT e=some x):e= .stmts x:=by induction e <;> cases h;rfl
theorem wJ{s:Stmt}{q:(Str×Pos)×(Str×Pos)×(Str×Pos)×(Str×Pos)×Pos×Pos}(h:uK s=some q):s= .Expr (.Call (.Attribute (.Name q.1.1 q.1.2) q.2.2.2.1.1 q.2.2.2.1.2) [.Name q.2.1.1 q.2.1.2,.Name q.2.2.1.1 q.2.2.1.2] [] q.2.2.2.2.1) q.2.2.2.2.2:=by
 refine bel h λc0 h4 h=>bel h λc h5 h=>bel h λm h6 h=>bel h λn h7 h=>bel h λas h8 h=>bel h λu h9 h=>bel h λv h10 h=>?_;by_cases z:c.2.2.1.isEmpty=true
 ·rw [aN z] at h;cases h;rw [NO (m:=λe=>e= .Expr c0.1 c0.2) h4 rfl,EI (m:=λe=>e= .Call c.1 c.2.1 c.2.2.1 c.2.2.2) h5 rfl,yE (m:=λe=>e= .Attribute m.1 m.2.1 m.2.2) h6 rfl,XB (m:=λe=>e= .Name n.1 n.2) h7 rfl,DE h8,XB (m:=λe=>e= .Name u.1 u.2) h9 rfl,XB (m:=λe=>e= .Name v.1 v.2) h10 rfl,List.isEmpty_iff.mp z]
 ·rw [aJ z] at h;exact nos h
theorem uI{s:Stmt}{q:(Str×Pos)×(Str×Pos)×(Str×Pos)×Pos}(h:QI s=some q):s= .Assign [.Attribute (.Name q.1.1 q.1.2) q.2.2.1.1 q.2.2.1.2] (.Name q.2.1.1 q.2.1.2) q.2.2.2:=by
 refine bel h λg h4 h=>bel h λt0 h5 h=>bel h λt h6 h=>bel h λu h7 h=>bel h λv h8 h=>?_;cases h;rw [zR (m:=λe=>e= .Assign g.1 g.2.1 g.2.2) h4 rfl,GF h5,yE (m:=λe=>e= .Attribute t.1 t.2.1 t.2.2) h6 rfl,XB (m:=λe=>e= .Name u.1 u.2) h7 rfl,XB (m:=λe=>e= .Name v.1 v.2) h8 rfl]
theorem EJ{fd:FuncData}{xn a b attr:Str}{G:Prop}(h:yH fd=some (xn,a,b,attr))(fin:∀ x1 x2 np oY p1 p2 cpos pos q tp vp pos2,fd.params=⟨[],[x1,x2],none,[],[],none,[]⟩->fd.body= .stmts [.Expr (.Call (.Attribute (.Name xn np) "__init__" oY) [.Name a p1,.Name b p2] [] cpos) pos,.Assign [.Attribute (.Name a q) attr tp] (.Name b vp) pos2]->x1.arg=a->x2.arg=b->a≠b->oY.endLine=cpos.line->G):G:=by
 refine bel h λxs h1 h=>bel h λl h2 h=>bel h λb' h3 h=>bel h λc h4 h=>bel h λg h5 h=>?_;by_cases z:FJ fd.params xs c g=true
 ·rw [aN z] at h;cases h;unfold FJ at z;simp only [Bool.and_eq_true,decide_eq_true_eq] at z;obtain x03|Ds|Dt|z10:=z;obtain x03|Ds|Dt|z6:=Ds;obtain x02|Dx|z3:=Ds;obtain ⟨z1,z2⟩:=Dx;obtain x02|z4|z5:=Dt;obtain x02|Dr|z9:=Dt;obtain x02|z7|z8:=Dr;refine fin xs.1 xs.2 c.1.2 c.2.2.2.1.2 c.2.1.2 c.2.2.1.2 c.2.2.2.2.1 c.2.2.2.2.2 g.1.2 g.2.2.1.2 g.2.1.2 g.2.2.2 ?_ ((MN h2).trans (aU FuncBody.stmts ?_)) z5 z6 z9 z10
  ·unfold AC at z1;simp only [Bool.and_eq_true,List.isEmpty_iff,Option.isNone_iff_eq_none] at z1 z2 z3;obtain x02|Dr|i4:=z1;obtain x02|Dq|i3:=Dr;obtain x02|i1|i2:=Dq;exact UK i1 (DE h1) i2 i3 z2 i4 z3
  ·rw [DE h3,wJ h4,uI h5,z4,z7,z8]
 ·rw [aJ z] at h;exact nos h
theorem xH{M:Model}{s:Shared}{G:Ground}{x:Str}{u:V}{pos:Pos}{Q:Value->Shared->Prop}(W:Wd G K)(hb:∀ b o,G.base.get? b=some o->s.heap.get? b=some o)(hk:env.scope.kind= .function)(hg:env.globals=mainGlobals)(hbl:env.builtins=builtinsNs)
  (hx:env.kindOf x=some .globalImplicit) (hd:x≠"__debug__") (hu:HB K x=some u) (h:∀ v,jI v=some u->Q v s):wpAny M A (eval (.Name x pos) env) Q E s:=by
 have hd':(x==("__debug__" :Str))=false:=by simpa using hd
 obtain x51|p|loose|nY|mg|mb|T:=W.T;rcases IG hu with ⟨v,hv,hu⟩ | ⟨hv,hn,hu⟩
 ·exact Name_function_global hk hx (loadGlobal_global (by rw [hg];exact T.g.keeps hb) (mg_of W.X T.g hv) (h v hu)) hd'
 ·obtain x12|v|hb'|hv':=bX.mp hu;exact Name_function_global hk hx (loadGlobal_builtin (by rw [hg];exact T.g.keeps hb) (mg_none_of W.X T.g hv) (by rw [hbl];exact T.b.keeps hb) ((T.builtins x hn).trans hb') (h v hv')) hd'
theorem WG{M:Model}{s:Shared}{x:Str}{m:Str->Option Value}{v:Value}{pos:Pos}{Q:Value->Shared->Prop}(hk:env.scope.kind= .function)(hx:env.kindOf x=some .local)(hd:x≠"__debug__")(hn:s.heap.Ns env.locals m)(hm:m x=some v)(h:Q v s):
  wpAny M A (eval (.Name x pos) env) Q E s:=wpAny_Name (wpAny_loadName_local hk hx hn hm h) (by simpa using hd)
theorem JS{s:Shared}{G:Ground}{C e fi t0:Addr}{fo:Obj}{fd:FuncData}{y:Value}{Q:Value->Shared->Prop}(W:Wd G K)(hb:∀ b o,G.base.get? b=some o->s.heap.get? b=some o)(qY:A.depth < recursionLimit)
  (hfd:K.lookup fi=some fo) (hd:fo.data= .func fd) (ok:tN K C fd=true) (hC:AK K C fi=true) (hn:G.base.get? e=none) (he:s.heap.get? e=some {cls:= .ref C,data:= .fields #[.ref t0,.none,.none,.none,.bool false,.none]}) (hy:VR Y v y)
  (h:∀ h' tk t1,(∀ b o,b≠e->s.heap.get? b=some o->h'.get? b=some o)->(∃ D,h'.get? e=some {cls:= .ref C,dict:=some D,data:= .fields #[.ref t1,.none,.none,.none,.bool false,.none]})->Q .none {s with heap:=h',toks:=tk}):
  wpAny (model prog G.w) A (call (.ref fi) [.ref e,y]) Q E s:=by
 refine FI hC λnm q N bs bm hdct sn sub ab col dd k0 k1 k2 k3 k5 hCK hT hT2 hHD hfi hfc=>?_;unfold tN at ok;cases hin:yH fd with
 | none=>rw [hin] at ok;exact aS ok aW
 | some q=>
 rw [hin] at ok;obtain ⟨xn,a,b,attr⟩:=q;dsimp only at ok;simp only [Bool.and_eq_true,beq_iff_eq,bne_iff_ne,List.all_eq_true] at ok;obtain x02|Dp|c13:=ok;obtain x02|Do|c12:=Dp;obtain x02|Dw|c11:=Do;obtain ⟨⟨⟨⟨⟨⟨⟨⟨⟨c1,c2⟩,c3⟩,c4⟩,c5⟩,c6⟩,c7⟩,c8⟩,c9⟩,c10⟩:=Dw;refine EJ hin λx1 x2 np oY p1 p2 cpos pos qp tp vp pos2 hp hbody e1 e2 hab hline=>?_;subst e1 e2;unfold fdOk at c1;simp only [Bool.and_eq_true,Bool.not_eq_true',beq_iff_eq,List.isEmpty_iff,decide_eq_true_eq] at c1;obtain x02|Dn|o9:=c1;obtain x02|Dy|o8:=Dn;obtain x02|Dv|o7:=Dy;obtain ⟨⟨⟨⟨⟨o1,o2⟩,o3⟩,o4⟩,o5⟩,o6⟩:=Dv;have o6:fd.scope.kind= .function:=by simpa using o6
 obtain x51|p|loose|nY|mg|mb|T:=W.T;have X:=W.X.keeps hb;have hdef:fd.defaults= .none:=by
  revert c2;induction fd.defaults with
  | none=>intro _;rfl
  | _=>intro h;exact aS h aW
 have hbind:BindsTo s fd ⟨[.ref e,y],[]⟩ [(x1.arg,.ref e),(x2.arg,y)]:=λM A' E' Q' hq=>by
  refine pJ (ds:= []) o1 o2 (λ{Q''} k=>?_) (.inr (by rw [hp];rfl)) ?_
  ·rw [hdef];exact aG (k none rfl)
  ·rw [hp];exact hq
 refine wpAny_call (codeAny_call_def qY (X _ _ hfd) hd ((T.nolimit).keeps hb) (codeRec_of X o9) hbody hbind (λz hz=>c10 z hz) (λz hz=>?_) (λh₀ Be hk=>?_) o4 o5 o6)
 ·rcases aZ.mp hz with rfl | hz
  ·exact c8
  ·rcases aZ.mp hz with rfl | hz
   ·exact c9
   ·cases hz
 have eL:e≠s.heap.objs.size:=bG (cP he)
 revert Be hk eL;refine genE (s.heap.objs.size) ?_;intro L hL Be hk eL
 refine genE (callEnv fd L fi) ?_;intro env Ad;have e1:env.scope=fd.scope:=by rw [<-Ad];rfl
 have e2:env.locals=L:=by rw [<-Ad];rfl
 have e3:env.globals=mainGlobals:=by rw [<-Ad];exact o7
 have e4:env.builtins=builtinsNs:=by rw [<-Ad];exact o8
 have Ck:env.scope.kind= .function:=by rw [e1];exact o6
 have kn:∀ {x k},fd.scope.names.lookup x=some k->env.kindOf x=some k:=λhx=>by unfold Env.kindOf;rw [e1];exact hx
 have ma:([(x1.arg,Value.ref e),(x2.arg,y)].reverse.lookup x1.arg)=some (.ref e):=by
  have:(x1.arg==x2.arg)=false:=by simpa using hab
  simp [List.lookup_cons,this]
 have mb':([(x1.arg,Value.ref e),(x2.arg,y)].reverse.lookup x2.arg)=some y:=by simp [List.lookup_cons]
 rw [<-e2] at Be;have hi:interactive env=false:=by unfold interactive;rw [Ck];rfl
 refine wpAny_execs_cons (wpAny_Expr_any ?_ hi rfl);show wpAny _ _ (attributeBase (.Name xn np) "__init__" env (eval (.Name xn np) env) >>=λov=>standAt oY.atName >>=λZ=>methodCall (.Name xn np) "__init__" oY cpos env ov (2+0) (backTo cpos (starEach [.Name x1.arg p1,.Name x2.arg p2] env)) []) _ _ _;rw [ZF rfl];have hb0:∀ b o,G.base.get? b=some o->h₀.get? b=some o:=λb o z=>hk b o (hb b o z);refine aA (xH W hb0 Ck e3 e4 (kn c7) c4 c3 λu hu=>aA (dP ?_));have hu:u= .type "Exception":=BG hu [];subst hu;have Am:methodCallPos true (.Name xn np) env oY cpos=pure cpos:=by
  unfold methodCallPos;rw [aN (by simp [hline])]
 have pl:=vE (pos:=cpos) (xs:= [.Name x1.arg p1,.Name x2.arg p2]) (env:=env) rfl;have few:methodCallForm (2+0) (backTo cpos (starEach [.Name x1.arg p1,.Name x2.arg p2] env)) []=true:=by
  unfold methodCallForm;rw [pl.2];rfl
 unfold methodCall;rw [few,Am];have X0:=W.X.keeps hb0;have hfind:findCls K (.type "Exception") (.type "type") "__init__"=some (.val (.builtin "Exception.__init__")):=by
  revert c13;refine genI (findCls K (.type "Exception") (.type "type") "__init__") ?_;intro u c13
  induction u with
  | none=>exact aS c13 aW
  | some r=>induction r with
   | val v=>rw [(beq_iff_eq (a:=v) (b:= .builtin "Exception.__init__")).mp c13]
   | _=>exact aS c13 aW
 refine aA (bT (LQ X0 ES DS hfind (by decide+kernel) ?_));refine aA (aG ?_);dsimp only;refine callWith_of (P:=λZ=>True) (by rw [pl.1];rfl) (λZ Z=>i12 (.machine) (.inr (.inl rfl)) (Looks.of_pure rfl)) (kE rfl ?_);show wpAny _ _ (eval (.Name x1.arg p1) env >>=λv1=>Pure.pure [v1] >>=λhere=>holding here (eval (.Name x2.arg p2) env >>=λv2=>Pure.pure [v2] >>=λwY=>holding wY (Pure.pure []) >>=λl=>Pure.pure (wY++l)) >>=λl=>Pure.pure (here++l)) _ _ _;refine aA (WG Ck (kn c8) c5 Be ma (aA (aG (aA (bT (aA (WG Ck (kn c9) c6 Be mb' (aA (aG (aA (bT (aG (aG (aG ⟨trivial,?_⟩))))))))))))));refine CS hT (X0 _ _ hCK) (hk _ _ he) (aE (show 1<=100000 by decide) FA) λh1 t1 Cq he1=>?_;have hns1:h1.Ns env.locals _:=Be.extBut (b:=e) (λb o hbe g=>Cq b o hbe g) (by rw [e2];exact Ne.symm eL);have hb1:∀ b o,G.base.get? b=some o->h1.get? b=some o:=λb o z=>Cq b o (λq=>by rw [q,hn] at z;cases z) (hb0 b o z);have X1:=W.X.keeps hb1;refine wpAny_execs_cons ?_;rw [exec_Assign_arm];refine aA (dP ?_);show wpAny _ _ (eval (.Name x2.arg vp) env >>=λv=>Pure.pure none >>=λq=>assignStores env v q [assign (.Attribute (.Name x1.arg qp) attr tp) env]) _ _ _;refine aA (WG Ck (kn c9) c6 hns1 mb' (aA (aG ?_)));show wpAny _ _ (assign (.Attribute (.Name x1.arg qp) attr tp) env y >>=λZ=>Pure.pure PySem.Flow.next) _ _ _;refine aA ?_;rw [arm_assign_Attribute];refine aA (bT (WG Ck (kn c8) c5 hns1 ma (aA (dP (aA (bT ?_))))));have I1:InstAt h1 e {cls:= .ref C,data:= .fields #[.ref t1,.none,.none,.none,.bool false,.none]} C none:=⟨he1,rfl,rfl,trivial⟩;refine set_plain X1 I1 c12 (xV X1 I1 rfl rfl hT2 c11 hHD hy λh2 tk Ci he2=>?_);refine wpAny_release (aG (wpAny_execs_nil ?_));refine h h2 tk t1 (λb o hbe g=>Ci b o hbe (Cq b o hbe (hk b o g))) he2
end
section
open PyProof.Rows.LSm
section
variable {U:Lev} {Y0:List Addr} {F:Fns} {J:Ev} {s s':S} {r:Shared}
theorem Flies.made{c e:Addr}{h':Heap}{t D:Addr}(st:StL U Y s r)(cover:∀ env∈U.envs,env.scope.kind≠ .module/\∃ L,env.frame=some L/\(L=U.env.locals\/∃ q∈U.kp,q.1=L))(hn:r.heap.get? e=none)(hk:∀ b o,b≠e->r.heap.get? b=some o->h'.get? b=some o)
  (he:h'.get? e=some {cls:= .ref c,dict:=some D,data:= .fields #[.ref t,.none,.none,.none,.bool false,.none]}):Flies U Y s c e {r with heap:=h',toks:=tk}:=by
 have k:∀ b o,r.heap.get? b=some o->h'.get? b=some o:=λb o g=>hk b o (λz=>by rw [z,hn] at g;cases g) g;have st':StL U Y s {r with heap:=h',toks:=tk}:=st.keeps (tk:=tk) (d:=r.drawn) k;have mem:∀ {b:Addr},b≠U.env.locals->(∀ q∈U.kp,q.1≠b)->b∉U.env.locals::U.kp.map (·.1):=λh1 h2 hm=>by
  rcases aZ.mp hm with h | h
  ·exact h1 h
  ·obtain x12|q|hq|hb:=aL.mp h;exact h2 q hq hb
 have up:∀ {b:Addr},b∉U.env.locals::U.kp.map (·.1)->(hideAll r.heap (U.env.locals::U.kp.map (·.1))).get? b=r.heap.get? b:=λ{b} hm=>by
  cases z:r.heap.get? b with
  | some o=>exact hideAll_get _ z hm
  | none=>
   cases z2:(hideAll r.heap (U.env.locals::U.kp.map (·.1))).get? b with
   | none=>rfl
   | some o=>have:=of_hideAll _ z2;rw [z] at this;cases this
 refine Flies.of (B:=hideAll r.heap (U.env.locals::U.kp.map (·.1))) (a0:= .ref t) st' (λb o z=>k b o (of_hideAll _ z)) ?_ ?_ ⟨λb o z=>?_,λn o a ho hd ea=>?_,?_⟩ (.inl (i25 _ _ he rfl rfl rfl rfl))
 ·cases z2:(hideAll r.heap (U.env.locals::U.kp.map (·.1))).get? e with
  | none=>rfl
  | some o=>have:=of_hideAll _ z2;rw [hn] at this;cases this
 ·have:∀ l:List Env,(∀ env∈l,env.scope.kind≠ .module/\∃ L,env.frame=some L/\(L=U.env.locals\/∃ q∈U.kp,q.1=L))->h'.FunFrames (hideAll r.heap (U.env.locals::U.kp.map (·.1))) l:=by
   intro l
   induction l with
   | nil=>intro _;trivial
   | cons env l ih=>
    intro hc;obtain x02|c1|Ds:=hc env (.head _);obtain x12|L|c2|c3:=Ds;have Be:∃ m,r.heap.Ns L m:=by
     rcases c3 with rfl | ⟨q,hq,rfl⟩
     ·obtain x12|m|h1|u_:=st.ns;exact ⟨m,h1⟩
     ·exact ⟨_,(st.kept q hq).1⟩
    obtain x42|m|o|es|ep|g|Dr:=Be;obtain x02|d|u_:=Dr;refine i03 c1 (i24 L o c2 (hideAll_none _ ?_) (k _ _ g) λvs z=>by rw [d] at z;cases z) (ih λenv' he'=>hc env' (.tail _ he'));rcases c3 with rfl | ⟨q,hq,rfl⟩
    ·exact .head _
    ·exact .tail _ (bI hq)
  exact this _ cover
 ·refine hideAll_get _ (st.base b o z) (mem (λq=>by rw [q,st.fresh.1] at z;cases z) λq hq w=>?_);rw [<-w,st.fresh.2 q hq] at z;cases z
 ·obtain x04|Dq|aC|aK|u_:=st.objs n o a ho hd ea;obtain x12|ob|g|u_:=Dq;rw [up (mem aC aK),g];exact (k _ _ g).symm
 ·obtain x13|xs|tb|hx|lm:=st.more;refine i13 xs tb (λq hq=>?_) λn body scope cells a ob ho ea g=>lm n body scope cells a ob ho ea (of_hideAll _ g);obtain x05|q1|q2|q3|q4|q5:=hx q hq;exact i06 ((up (mem q2 q3)).trans q1) (k _ _ q1) q2 q3 q4 q5
theorem mQ{C:Addr}(h:lQ K C=true):keepIn K (.ref C)=true/\∃ fi o1 o2 fd o3,findIn K (.ref C) "__init__"=some (some (.ref fi))/\AK K C fi=true/\K.lookup fi=some ⟨o1,o2,.func fd,o3⟩/\tN K C fd=true:=by
 unfold lQ at h;rw [bY] at h;refine ⟨h.1,?_⟩;have h:=h.2
 revert h;refine genI (findIn K (.ref C) "__init__") ?_;intro w h
 induction w with
 | none=>exact aS h aW
 | some w=>induction w with
  | none=>exact aS h aW
  | some v=>induction v with
   | ref fi=>
    dsimp only at h;rw [bY] at h;have h1:=h.1;have h:=h.2
    revert h;cases hk:K.lookup fi with
    | none=>exact λh=>aS h aW
    | some o=>
     obtain ⟨o1,o2,dt,o3⟩:=o
     induction dt with
     | func fd=>exact λh=>i54 fi o1 o2 fd o3 rfl h1 hk h
     | _=>exact λh=>aS h aW
   | _=>exact aS h aW
variable (W:Wd U.G K) (So:Sound U.prog U.G F) (e:EvR U Y0 J)
include W So e
set_option tactic.hygienic true in
theorem BV(x:Str)(np cpos pos:Pos)(a:Expr):Sim U Y0 FlowR (RB K F (.Raise (some (.Call (.Name x np) [a] [] cpos)) none pos) J) (exec (.Raise (some (.Call (.Name x np) [a] [] cpos)) none pos) U.env):=by
 show Sim U Y0 FlowR (SH K F x a J) _;unfold SH;cases hg:HB K x with
 | none=>exact Sim.fail
 | some u=>
 induction u <;> try exact Sim.fail
 ·rename_i C;cases hx:J.scope.names.lookup x with
  | none=>exact Sim.fail
  | some nk=>
  induction nk <;> try exact Sim.fail
  dsimp only;refine Sim.need λhn=>⟨λY s r Q E ex st pe nn ok exc=>?_⟩;simp only [Bool.and_eq_true,bne_iff_ne] at hn;obtain x02|Dp|h3:=hn;obtain x02|h1|h2:=Dp;obtain x02|hkeep|Do:=mQ h1;obtain x51|fi|o1|o2|fd|o3|Du:=Do;obtain x04|hfi0|hE|hfd|h1:=Du;refine FI hE λnm q N bs bm hdct sn sub ab col dd k0 k1 k2 k3 k5 hCK hT hT2 hHD hfi hfc=>?_;have Ck:U.env.scope.kind= .function:=by rw [e.scope];exact e.kind
  have hx':U.env.kindOf x=some .globalImplicit:=by unfold Env.kindOf;rw [e.scope];exact hx
  rw [arm_exec_Raise];refine aA (dP (qQ (C:=C) (nm:=nm) (q:=q) (N:=N) (bs:=bs) (bm:=bm) (hdct:=hdct) (sn:=sn) (sub:=sub) (ab:=ab) (col:=col) (dd:=dd) (k0:=k0) (k1:=k1) (k2:=k2) (k3:=k3) (k5:=k5) hT e.a.handled ?_));show wpAny _ _ ((eval (.Name x np) U.env >>=λf=>callWith cpos f [] (backTo cpos (starEach [a] U.env)) []) >>=λv=>standAt pos >>=λZ=>Pure.pure v) _ _ _;refine aA (aA (xH W st.base Ck e.glob e.blt hx' h3 hg λv hv=>?_));have hv:v= .ref C:=BG hv [];subst hv;have han: [a].all WA=true:=by simp [h2]
  have pl:=vE (pos:=cpos) (env:=U.env) han;refine callWith_of (P:=λh=>∀ b o,U.G.base.get? b=some o->h.get? b=some o) (by rw [pl.1];rfl) (λh hb=>keeps_K hkeep _ (W.X.keeps hb)) (kE han ?_);rw [KC h2];show wpAny _ _ (eval a U.env >>=λv=>Pure.pure [v] >>=λhere=>PySem.holding here (Pure.pure []) >>=λl=>Pure.pure (here++l)) _ _ _;refine aA ((BB So e a ex).run Y s r _ E (Ext.refl _) st pe (bind_some nn) (λu s1 ha Y1 y r1 x1 Al hy=>?_) (λc s1 ha=>exc c s1 (EA ha)));refine aA (aG (aA (bT (aG (aG ⟨Al.base,?_⟩)))));have X1:=W.X.keeps Al.base;obtain ⟨fo,hfo,hfoc⟩:∃ fo,K.lookup fi=some fo/\fo.cls= .type "function":=by
   unfold typeIn at hfc;obtain x12|fo|h1|h2:=bH.mp hfc;exact i12 fo h1 h2
  obtain ⟨hp,g,d,tk,os⟩:=r1;have qY:(U.A.under (.builtin "type.__call__" ⟨.ref C:: [y],[]⟩)).depth < recursionLimit:=by
   have:=e.a.depth;exact d1 (c:=19) this
  refine BS hT (X1 _ _ hCK) (looks_findIn X1 hfi) (X1 _ _ hfo) hfoc (λh2 ea hm=>?_) (aE (show 1<=100000 by decide) FA);obtain x13|t0|ht0|u_|u_:=hm.there;have Dm:U.G.base.get? ea=none:=by
   cases z:U.G.base.get? ea with
   | none=>rfl
   | some o=>have:=Al.base _ _ z;rw [hm.new] at this;cases this
  have hnone:∀ {b:Addr} {o:Obj},hp.get? b=some o->b≠ea:=λg z=>by rw [z,hm.new] at g;cases g
  refine JS (prog:=U.prog) (G:=U.G) W (λb o z=>hm.keeps _ _ (Al.base b o z)) qY hfd rfl h1 hE Dm ht0 hy λh3 tk3 t1 hs3 he3=>⟨rfl,?_⟩;obtain x11|D|he3:=he3;refine aA (dP (aG (i34 ea t1 D rfl ?_ he3 ?_)))
  ·exact hs3 _ _ (hnone (X1 _ _ hCK)) (hm.keeps _ _ (X1 _ _ hCK))
  ·exact exc C s1 (by rw [nA ha];rfl) Y1 ea _ x1 (Flies.made (r:=⟨hp,g,d,tk,os⟩) (h':=h3) (tk:=tk3) Al e.a.cover hm.new (λb o hbe z=>hs3 b o hbe (hm.keeps _ _ z)) he3)
end
end
section
open PyProof.Rows.LSm
section
variable {M:Model} {s:Shared}
theorem vO{base:Heap}{outer:List Env}{L e:Addr}{oe:Obj}{vs:Array Value}{a0:Value}{Q:Unit->Shared->Prop}
  (hfr:A.frames=some (env::outer)) (hl:s.heap.FunFrames base (env::outer)) (hf:env.frame=some L)
  (he:s.heap.get? e=some oe) (hkb:base.StaysIn s.heap) (hen:base.get? e=none) (hd:oe.data= .fields vs) (h1:vs[1]? =some .none) (h0:vs[0]? =some a0)
  (h:∀ h',Heap.NotedW base (env::outer) e oe.cls a0 (rawInt L) s.heap h'->Q () {s with heap:=h'}):wpAny M A (noteFrame (.ref e) env) Q E s:=by
 unfold noteFrame;simp only [hf];refine aA (gM he hd h1 ?_);rw [aJ (by decide)];exact wpAny_entryW hfr hl hf he hkb hen hd (fA.mp h1).1 h0 h
theorem LP{D:Addr}{cd:ClassData}(h:clsIn K D=some cd):∃ o1 o2 o3,K.lookup D=some ⟨o1,o2,.cls cd,o3⟩:=by
 revert h;unfold clsIn;refine genI (K.lookup D) ?_;intro u h
 induction u with
 | none=>exact nos h
 | some o=>
  obtain ⟨o1,o2,dt,o3⟩:=o
  induction dt with
  | cls c=>rw [Option.some.inj h];exact i31 _ _ _ rfl
  | _=>exact nos h
theorem oQ{C D e:Addr}{oe:Obj}{b:Bool}{Q:Bool->Shared->Prop}(X:K.In s.heap)(he:s.heap.get? e=some oe)(hc:oe.cls= .ref C)(h1:subIn K (.ref D) (.type "BaseException")=some true)(h2:typeIn K (.ref D)=some (.type "type"))(hD:(clsIn K D).isSome=true)(h3:subIn K (.ref C) (.ref D)=some b)(h:Q b s):
  wpAny M A (excMatches (.ref e) (.ref D)) Q E s:=by
 have L4:Looks M s.heap (typeOf (.ref e)) (.ref C):=by rw [<-hc];exact (Looks.ld he).andThen .now
 have L5:Looks M s.heap (isExcClass (.ref D)) true:=by
  unfold isExcClass;refine Looks.andThen (a:=true) ?_ (looks_subIn (M:=M) X h1);obtain x11|cd|hcd:=eI.mp hD;obtain x31|o1|o2|o3|hK:=LP hcd;exact (Looks.ld (X _ _ hK)).andThen .now
 unfold excMatches;refine aA (((looks_typeIn X h2).andThen (Looks.of_pure PySem.tc_notTuple):Looks M s.heap (isInstance (.ref D) (.type "tuple")) false).here ?_);rw [aJ aW];refine aA (aG ?_);simp only [List.forIn_cons,List.forIn_nil];refine aA (aA (aA (L5.here ?_)));simp only [Bool.not_true,Bool.false_eq_true,if_false];refine aG (aG (aA (L4.here ?_)));refine aA (aA (aA ((looks_subIn (M:=M) X h3).here ?_)))
 induction b with
 | true=>exact aG (aG (aG h))
 | false=>exact aG (aG (aG h))
end
theorem KG{b:List Stmt}{u:V}{G:Prop}(h:EE b=some (u,v))(fin:∀ c1 k1 p1 c2 k2 p2 k pt pr,b= [.Return (some (.Tuple [.Constant c1 k1 p1,.Constant c2 k2 p2] k pt)) pr]->uD c1=some u->uD c2=some v->G):G:=by
 refine bel h λs0 h1 h=>bel h λr h2 h=>bel h λe h3 h=>bel h λt h4 h=>bel h λp h5 h=>bel h λx h6 h=>bel h λu' h7 h=>bel h λy h8 h=>bel h λv' h9 h=>?_;cases h;refine fin _ x.2.1 x.2.2 _ y.2.1 y.2.2 t.2.1 t.2.2 r.2 ?_ h7 h9;rw [GF h1,BR (m:=λs=>s=_) h2 rfl,h3,VE (m:=λe=>e=_) h4 rfl,DE h5,tH (m:=λe=>e=_) h6 rfl,tH (m:=λe=>e=_) h8 rfl]
section
variable {U:Lev} {Y0:List Addr} {F:Fns} {J:Ev} {s s':S} {r:Shared}
theorem WM{c:Const}{w:V}{M:Model}{Q:Value->Shared->Prop}{r:Shared}(h:uD c=some w)(k:∀ x tk,(∀ Y,VR Y w x)->Q x {r with toks:=tk}):wpAny M A (constValue env c) Q E r:=by
 induction c with
 | none=>cases h;exact aG (k _ r.toks λZ=>rfl)
 | bool b=>cases h;exact aG (k _ r.toks λZ=>rfl)
 | int i=>cases h;exact wpAny_mkInt (k _ _ λZ=>⟨_,rfl⟩)
 | str s=>cases h;exact wpAny_mkText (k _ _ λZ=>⟨_,rfl⟩)
 | bytes b=>cases h;exact wpAny_mkTextBytes (k _ _ λZ=>⟨_,rfl⟩)
 | _=>exact nos h
theorem AT{b:List Stmt}{u:V}{Q:PySem.Flow->Shared->Prop}(st:StL U Y s r)(h:EE b=some (u,v))
  (k:∀ Y' x r',Ext Y Y'->StL U Y' {s with h:=s.h++ [.tup [u,v]]} r'->VR Y' (.ref s.h.length) x->Q (.ret x) r'):wpAny (model U.prog U.G.w) A (execs b env) Q E r:=by
 refine KG h λc1 k1 p1 c2 k2 p2 kt pt pr e h1 h2=>?_;subst e;refine wpAny_execs_cons (wpAny_Return_some ?_);show wpAny _ _ (standAt pt >>=λZ=>(constValue env c1 >>=λv1=>Pure.pure [v1] >>=λhere=>PySem.holding here (constValue env c2 >>=λv2=>Pure.pure [v2] >>=λwY=>PySem.holding wY (Pure.pure []) >>=λl=>Pure.pure (wY++l)) >>=λl=>Pure.pure (here++l)) >>=λl=>PySem.newTuple l) _ _ _;refine aA (dP (aA (aA (WM h1 λx1 t1 hx1=>aA (aG (aA (bT (aA (WM h2 λx2 t2 Cg=>aA (aG (aA (bT (aG (aG (aG ?_)))))))))))))));refine wpAny_newTuple ?_ (aE (show 2<=100000 by decide) FA);have Al:StL U (Y++ [r.heap.objs.size]) {s with h:=s.h++ [.tup [u,v]]} {r with heap:=r.heap.push {cls:= .type "tuple",data:= .seq #[x1,x2]},toks:=t2}:=
  st.alloc (tk:=t2) (λb o e=>aM _ e) Heap.fresh_none (bC _ rfl) ⟨rfl,[x1,x2],0,rfl,hx1 _,Cg _,trivial⟩ (aV st.big)
 exact k _ _ _ (Ext.one _ _) Al (i12 _ (by rw [<-st.len];simp) rfl)
variable (W:Wd U.G K) (So:Sound U.prog U.G F) (e:EvR U Y0 J)
include W e
theorem NL{C ex:Addr}{B:Heap}{a0:Value}{body:List Stmt}{u:V}{Q:PySem.Flow->Shared->Prop}(st:StL U Y s r)(y:Still U.G U.env.locals U.kp Y s r B)(fl:Heap.FlyingW B U.envs ex (.ref C) a0 r.heap)(hb:EE body=some (u,v))
  (k:∀ Y' x r',Ext Y Y'->StL U Y' {s with h:=s.h++ [.tup [u,v]]} r'->VR Y' (.ref s.h.length) x->Q (.ret x) r'):∀ hs:List ExceptHandler,nE K J C hs=some body->wpAny (model U.prog U.G.w) U.A (handleBy (.ref ex) U.env hs) Q E r:=by
 intro hs
 induction hs with
 | nil=>intro h;cases h
 | cons q iY ih=>
  intro h;obtain ⟨t,nm,b,pos⟩:=q;refine bel h λe' ht h4=>bel h4 λx hx0 h5=>bel h5 λD hg h6=>?_;clear h h4 h5;by_cases hn:nm.isSome=true\/J.scope.names.lookup x.1≠some .globalImplicit\/x.1="__debug__"\/subIn K (.ref D) (.type "BaseException")≠some true\/typeIn K (.ref D)≠some (.type "type")\/(clsIn K D).isSome=false
  ·rw [aN hn] at h6;exact nos h6
  rw [aJ hn] at h6;simp only [not_or,Decidable.not_not,Bool.not_eq_false] at hn;obtain x06|n0|hx|n1|n2|n3|n4:=hn;obtain ⟨x,np⟩:=x;have ht:t=some (.Name x np):=ht.trans (aU some (XB (m:=λe=>e=_) hx0 rfl));have hg:HB K x=some (.glob D):=by
   revert hg;unfold nU;refine genI (HB K x) ?_;intro u hg
   induction u with
   | none=>exact nos hg
   | some u=>induction u with
    | glob C=>rw [Option.some.inj hg]
    | _=>exact nos hg
  have n0:nm=none:=by induction nm with | none=>rfl | some=>exact aS rfl n0
  subst n0 ht;clear hx0;have Ck:U.env.scope.kind= .function:=by rw [e.scope];exact e.kind
  have hx':U.env.kindOf x=some .globalImplicit:=by unfold Env.kindOf;rw [e.scope];exact hx
  obtain x12|oe|he|hc:=fl.there;have mZ:∀ {b:Bool} {R:Result->Shared->Prop},subIn K (.ref C) (.ref D)=some b->R (.ok (if b then .brk else .next)) r->codeAny (model U.prog U.G.w) (U.A.mark (some (.ref ex))) (.handlers (.ref ex) [.ExceptHandler (some (.Name x np)) none [] pos] U.env) R r:=λh3 hr=>by
   refine codeAny_handlers_test (xH W st.base Ck e.glob e.blt hx' n1 hg λw hw=>?_);have hw:w= .ref D:=BG hw [];subst hw;exact oQ (W.X.keeps st.base) he hc n2 n3 n4 h3 hr
  refine bel h6 λsb h3 h=>?_
  induction sb with
  | true=>
   cases h;refine KG hb λc1 k1 p1 c2 k2 p2 kt pt pr hbd u_ u_=>?_;refine wpAny_handleBy_cons (mZ h3 ?_) (by intro q;cases q);show codeAny _ _ _ _ _;subst hbd;refine codeAny_handlers_suite (lands_againW fl λh' fl' hu=>?_);obtain x02|st'|u_:=st.slots y fl'.1 hu;exact AT st' hb k
  | false=>exact wpAny_handleBy_cons (mZ h3 (ih h)) (by intro q;cases q)
include So
theorem zX(b:List Stmt)(h0:ExceptHandler)(hs:List ExceptHandler)(pos:Pos):Sim U Y0 FlowR (RB K F (.Try b (h0::hs) [] [] pos) J) (exec (.Try b (h0::hs) [] [] pos) U.env):=by
 show Sim U Y0 FlowR (tryE K F b (h0::hs) J) _;unfold tryE;refine Sim.need λhstm=>⟨λY s r Q E ex st pe nn ok exc=>?_⟩;obtain x22|outer|L|hen|hf:=e.head hstm;have fr:U.A.frames=some (U.env::outer):=by rw [<-hen];exact e.a.frames
 have at1:∀ {res:Res Internal.Flow} {s1:S},F.exs b J s=some (res,s1)->JX (F.exs b J) s=some (.ok res,s1):=λh=>by unfold JX;rw [h]
 have nn0:F.exs b J s≠none:=λz=>nn (QA (by unfold JX;rw [z]));refine wpAny_Try_except ?_;refine (So.exs U J Y0 b rfl rfl e).run Y s r _ _ ex st PassesOwn.looking nn0 (λf s1 h1 Y1 f' r1 x1 Al hf'=>?_) (λC s1 h1 Y1 ea r1 x1 fl=>?_)
 ·rw [nA (at1 h1)] at ok
  induction hf' with
  | next=>exact wpAny_execs_nil (ok _ _ rfl Y1 _ r1 x1 Al .next)
  | ret hv=>exact ok _ _ rfl Y1 _ r1 x1 Al (.ret hv)
 ·rw [nA (at1 h1)] at nn ok exc;dsimp only at nn ok exc;cases hh:(nE K J C (h0::hs)).bind EE with
  | none=>rw [hh] at nn;exact aS rfl nn
  | some uv=>
  obtain ⟨u,v⟩:=uv;obtain x12|body|hb1|hb2:=bX.mp hh;obtain x24|B|a0|f1|f2|f3|Dn:=fl.still;obtain x02|y|f7:=Dn;have fin:∀ (h':Heap),Heap.HeldW B U.envs ea (.ref C) a0 L h'->r1.heap.UpToSlots h'->wpAny (model U.prog U.G.w) U.A (setFlight (.ref ea) none) (λZ s₃=>wpAny (model U.prog U.G.w) U.A (handleBy (.ref ea) U.env (h0::hs)) Q E s₃) E {r1 with heap:=h'}:=λh' hd hu=>by
   obtain x02|Aq|y2:=fl.st.slots y hd.1 hu;refine wpAny_landsW hd λh3 fl3 hu3=>?_;obtain x02|Bf|y3:=Aq.slots y2 fl3.1 hu3;refine NL W e Bf y3 fl3 hb2 (λY4 x r4 x4 By hx=>?_) (h0::hs) hb1;rw [hh] at ok;exact ok _ _ rfl Y4 _ r4 (x1.trans x4) By (.ret hx)
  rw [hen] at f3;rcases f7 with ⟨ob,vs,g,hc,hd,h0',hn⟩ | ht
  ·refine vO fr f3 hf g f1 f2 hd hn h0' λh' hN=>?_;obtain x04|k1|k2|k3|k4:=hN;exact fin h' (i04 k1 f2 (by rw [hen];exact k2) (hc▸k3)) k4
  ·refine wpAny_looks_onW fr hf (i04 f1 f2 f3 ht) λh' hH hu=>fin h' (by rw [hen];exact hH) hu
end
end
section
open PyProof.Rows.LSm
section
variable {U:Lev} {Y0:List Addr} {F:Fns} {J:Ev} {s s':S} {r:Shared}
theorem lR{b c:V}{d:Addr}{y z:Value}(ha:Y0[n]? =some d)(hb:VR Y0 b y)(hc:VR Y0 c z):Sim U Y0 QC (IF n b c) (dictSet d y z):=by
 refine Sim.of_at λY s r ex st=>?_;have Ah:=ex.get ha;have hb:=hb.mono ex;have hc:=hc.mono ex;unfold IF;refine At.geto λo ho=>?_;have hlen:=(aQ.mp ho).1
 induction o with
 | dict es ep=>
  refine At.need λhn=>?_;simp only [Bool.and_eq_true] at hn;refine At.dict hn.1.1 λT Z c k hk=>?_;subst hk;obtain x14|Aj|g1|x1|Dn|nd:=st.at ho (ndd rfl) Ah;obtain x12|xs|d1|r1:=Dn;refine At.done (a:=()) (s':={s with h:=s.h.set _ (KX (c.enc k) _ es ep)}) (by unfold GX;rw [aN hlen]) λQ E kk=>?_;have Af:=iH r1 hn.2;refine vF (c.val Y k y hb) g1 x1 d1 (FC c hn.1.2 r1) (λh' o' tk h1 h2 h3 h4=>?_) Af;refine kk Y () _ (Ext.refl Y) (st.upd ho (ndd rfl) Ah (λb ob hb e=>h4.extBut b ob hb e) (.inr ?_)) trivial;exact i12 o' h1 (zU c hn.1.2 (c.of k y (c.val Y k y hb)) hc r1 nd h2 h3)
 | _=>exact At.fail
variable (W:Wd U.G K) (So:Sound U.prog U.G F) (e:EvR U Y0 J)
include So e
theorem sW(ks:List (Option Expr))(vs:List Expr)(pos:Pos):Sim U Y0 VR (zS F ks vs J) (eval (.Dict ks vs pos) U.env):=by
 obtain ⟨rfl,rfl⟩ | ⟨k,v,rfl,rfl⟩ | hf:(ks= []/\vs= [])\/(∃ k v,ks= [some k]/\vs= [v])\/zS F ks vs J=EX:=by
  induction ks using lCq with
  | nil=>induction vs using lCq with
   | nil=>exact .inl ⟨rfl,rfl⟩
   | cons _ _=>exact .inr (.inr rfl)
  | cons k r=>induction k with
   | none=>exact .inr (.inr rfl)
   | some k=>induction r using lCq with
    | cons _ _=>exact .inr (.inr rfl)
    | nil=>induction vs using lCq with
     | nil=>exact .inr (.inr rfl)
     | cons v vr=>induction vr using lCq with
      | nil=>exact .inr (.inl (i22 k v rfl rfl))
      | cons _ _=>exact .inr (.inr rfl)
 ·rw [arm_eval_Dict];show Sim U Y0 VR _ (standAt pos >>=λZ=>newDict);refine Sim.at (Sim.of_at λY s r ex st=>?_);exact At.newV (R:=VR) st (.dict [] 0) {cls:= .type "dict",data:= .dict #[]} (.ref r.heap.objs.size) r.toks rfl (i03 (i03 rfl rfl rfl) (i12 [] rfl trivial) List.Pairwise.nil) (HC st) λQ E k=>fZ k
 ·unfold zS;dsimp only;rw [arm_eval_Dict];have hz:((evalEachOpt [some k] U.env).zip ((evalEach [v] U.env).map λv=>(v >>=λx=>standAt pos >>=λZ=>Pure.pure x)))= [(eval k U.env,eval v U.env >>=λx=>standAt pos >>=λZ=>Pure.pure x)].map λp=>(some p.1,p.2):=rfl;rw [hz];rw [dictDisplay_pairs [(eval k U.env,eval v U.env >>=λx=>standAt pos >>=λZ=>Pure.pure x)] (dB _ _) (show 1 < 17 by decide)];refine Sim.at ⟨λY s r Q E ex st pe nn ok exc=>?_⟩;have e1:(FX (.dict [] 0):M Nat) s=some (.ok s.h.length,{s with h:=s.h++ [.dict [] 0]}):=rfl;rw [nA e1] at nn ok exc;have Al:StL U (Y++ [r.heap.objs.size]) {s with h:=s.h++ [.dict [] 0]} {r with heap:=r.heap.push {cls:= .type "dict",data:= .dict #[]}}:=
   st.alloc (tk:=r.toks) (λb o e=>aM _ e) Heap.fresh_none (bC _ rfl) (i03 (i03 rfl rfl rfl) (i12 [] rfl trivial) List.Pairwise.nil) (aV st.big)
  have hd:(Y++ [r.heap.objs.size])[s.h.length]? =some r.heap.objs.size:=by rw [<-st.len];simp
  refine aA (wpAny_subDict_any (cH 1 14) (evalPairs_cons ?_));refine (BB So e k (ex.trans (Ext.one _ _))).run _ _ _ _ E (Ext.refl _) Al pe (bind_some nn) (λa s2 e2 Y2 kv r2 x2 Aq ha=>?_) (λc s2 e2 Y' b r' x'=>exc c s2 (EA e2) Y' b r' ((Ext.one _ _).trans x'));rw [nA e2] at nn ok exc;refine aA ((BB So e v ((ex.trans (Ext.one _ _)).trans x2)).run _ _ _ _ E (Ext.refl _) Aq pe (bind_some nn) (λb s3 e3 Y3 vv r3 x3 Bf hb=>?_) (λc s3 e3 Y' b r' x'=>exc c s3 (EA e3) Y' b r' (((Ext.one _ _).trans x2).trans x')));rw [nA e3] at nn ok exc;refine aA (dP (aG (evalPairs_nil ?_)));unfold storeAll;rw [fJ];refine aA (aA ((lR (x3.get (x2.get hd)) (ha.mono x3) hb).run _ _ _ _ E (Ext.refl _) Bf pe (bind_some nn) (λu s4 e4 Y4 Z r4 x4 By Z=>?_) (λc s4 e4 Y' b r' x'=>exc c s4 (EA e4) Y' b r' ((((Ext.one _ _).trans x2).trans x3).trans x'))));rw [nA e4] at ok;refine aG ?_;dsimp only;rw [List.forIn_nil];exact aG (aG (ok _ _ rfl Y4 _ r4 ((((Ext.one _ _).trans x2).trans x3).trans x4) By (i12 _ (x4.get (x3.get (x2.get hd))) rfl)))
 ·rw [hf];exact Sim.fail
end
end
section
open PyProof.Rows.LSm
def wI(prog:Program)(G:Ground)(pM:Addr->List V->Option V):Prop:=
 ∀ (U:Lev) Y a args xs v d,U.G=G->U.prog=prog->OkA U d->VsR Y args xs->pM a args=some v->Sim U Y VR (Pure.pure v) (call (.ref a) xs)
section
variable {U:Lev} {Y0:List Addr} {F:Fns} {J:Ev} {s s':S} {r:Shared}
variable (W:Wd U.G K) (So:Sound U.prog U.G F) (e:EvR U Y0 J)
include W So e
theorem ev_S(x:Expr):Sim U Y0 VR (evM K F x J) (eval x U.env):=by
 induction x using eCq with
 | Constant c k pos=>
  show Sim U Y0 VR (DX (uD c)) (constValue U.env c);exact Sim.opt' λu hu=>mV hu
 | Name x pos=>exact EW W e x pos
 | BoolOp op vs pos=>exact nW So e op pos vs (Ext.refl _)
 | BinOp l op r pos=>exact WW So e l r op pos
 | UnaryOp op x pos=>exact un_E So e op x pos
 | IfExp t b o pos=>exact if_E So e t b o pos
 | Dict ks vs pos=>exact sW So e ks vs pos
 | List es pos=>exact CW So e es pos
 | Tuple es k pos=>exact AX So e es k pos
 | Compare l ops rs pos=>exact ZW So e l ops rs pos
 | Call f args kws pos=>exact oW W So e f args kws pos
 | Attribute o name pos=>exact jW So e W o name pos
 | Subscript o i pos=>exact xX So e o i pos
 | ListComp elt gens scope pos=>exact qW W So e elt gens scope pos
 | Lambda args body scope pos=>exact sX W e args body scope pos
 | _=>exact Sim.fail
omit W in
theorem tr_S(x:Expr):Sim U Y0 (λZ a b=>a=b) (trM F x J) (isTrue x U.env (eval x U.env)):=by
 have plain:Sim U Y0 (λZ a b=>a=b) (F.ev x J >>=λv=>IC v) (eval x U.env >>=λv=>standAt x.pos >>=λZ=>PySem.holding [v] (truthy v)):=
  Sim.bind (BB So e x (Ext.refl _)) λY1 a v ex ha=>Sim.at (Sim.holding (YJ ha))
 induction x using eCq with
 | UnaryOp op x pos=>
  induction op with
  | Not=>
   show Sim U Y0 _ (F.tr x J >>=λb=>Pure.pure !b) (isTrue x U.env (eval x U.env) >>=λb=>Pure.pure !b);exact Sim.bind (XJ So e x (Ext.refl _)) λY1 a v ex ha=>by subst ha;exact Sim.pure λZ Z=>rfl
  | _=>exact plain
 | BoolOp op vs pos=>exact XU So e op vs (Ext.refl _)
 | IfExp t b o pos=>
  show Sim U Y0 _ (F.tr t J >>=λc=>if c then F.tr b J else F.tr o J) (isTrue t U.env (eval t U.env) >>=λc=>if c then isTrue b U.env (eval b U.env) else isTrue o U.env (eval o U.env));refine Sim.bind (XJ So e t (Ext.refl _)) λY1 a v ex ha=>?_;subst ha
  induction a with
  | true=>exact XJ So e b ex
  | false=>exact XJ So e o ex
 | Compare l ops rs pos=>
  show Sim U Y0 _ (BX (rs.all EB) >>=λZ=>F.ev l J >>=λa=>iE F J a ops rs) (eval l U.env >>=λa=>testChain pos a ops (markedEach ops rs (evalEach rs U.env)));refine Sim.need λhn=>?_;rw [GH ops rs _ hn];exact Sim.bind (BB So e l (Ext.refl _)) λY1 a v ex ha=>FM So e pos ops rs ex ha
 | _=>exact plain
theorem vW(x:Stmt):Sim U Y0 FlowR (RB K F x J) (exec x U.env):=by
 induction x using tCq with
 | Expr x pos=>exact wW So e x pos
 | Pass pos=>exact Sim.at (Sim.pure λZ Z=> .next)
 | Return v pos=>induction v with
  | some x=>exact oT So e x pos
  | none=>exact Sim.fail
 | Assign ts x pos=>induction ts using lCq with
  | nil=>exact Sim.fail
  | cons t ts=>induction ts using lCq with
   | nil=>exact wL W So e t x pos
   | cons=>exact Sim.fail
 | If t b o pos=>exact if_S So e t b o pos
 | While t b o pos=>induction o using lCq with
  | nil=>exact NV So e t b pos
  | cons=>exact Sim.fail
 | For t i b o pos=>induction o using lCq with
  | nil=>exact nX So e t i b pos
  | cons=>exact Sim.fail
 | Delete ts pos=>
  unfold RB;dsimp only;cases h:(tM ts).bind jQ with
  | none=>exact Sim.fail
  | some q=>
   obtain x12|y|h1|h2:=bX.mp h;rw [GF h1];exact zK (m:=λy=>Sim U Y0 FlowR (F.ev q.1 J >>=λov=>F.ev q.2.1 J >>=λiv=>nD ov iv >>=λZ=>Pure.pure .next) (exec (.Delete [y] pos) U.env)) h2 (xS (K:=K) So e q.1 q.2.1 q.2.2 pos)
 | Raise x c pos=>
  unfold RB;dsimp only;refine Sim.ite (λhc=>?_) λZ=>Sim.fail;rw [Option.isNone_iff_eq_none.mp hc];cases h:x.bind jN with
  | none=>exact Sim.fail
  | some q=>
   obtain x12|y|rfl|h2:=bX.mp h;clear h;dsimp only;cases h3:lE q.1 with
   | none=>exact Sim.fail
   | some n=>
    cases h4:tM q.2.1 with
    | none=>exact Sim.fail
    | some a=>
     refine Sim.ite (λhk=>?_) λZ=>Sim.fail;refine EI (m:=λy=>Sim U Y0 FlowR (SH K F n.1 a J) (exec (.Raise (some y) none pos) U.env)) h2 ?_;rw [GF h4,List.isEmpty_iff.mp hk];exact XB (m:=λf=>Sim U Y0 FlowR (SH K F n.1 a J) (exec (.Raise (some (.Call f [a] [] q.2.2.2)) none pos) U.env)) h3 (BV W So e n.1 n.2 q.2.2.2 pos a)
 | Try b hs o f pos=>induction hs using lCq with
  | nil=>exact Sim.fail
  | cons h0 hs=>induction o using lCq with
   | cons=>exact Sim.fail
   | nil=>induction f using lCq with
    | nil=>exact zX W So e b h0 hs pos
    | cons=>exact Sim.fail
 | _=>exact Sim.fail
theorem sV:∀ (xs:List Stmt) {Y:List Addr},Ext Y0 Y->Sim U Y FlowR (tB K F xs J) (execs xs U.env):=by
 intro xs
 induction xs with
 | nil=>intro _ _;exact Sim.pure λZ Z=> .next
 | cons x r ih=>
  intro Y ex;show Sim U Y FlowR (RB K F x J >>=λf=>match f with | .next=>tB K F r J | f=>Pure.pure f) (exec x U.env >>=λf=>match f with | .next=>execs r U.env | f=>Pure.pure f);refine Sim.bind (vW W So (e.mono ex) x) λY1 f f' Ak hf=>?_
  induction hf with
  | next=>exact ih (ex.trans Ak)
  | ret hv=>exact Sim.pure λY2 Ap=> .ret (hv.mono Ap)
end
theorem pW{U:Lev}{pM:Addr->List V->Option V}{F:Fns}{f:V}{x:Value}{args:List V}(W:Wd U.G K)(P:wI U.prog U.G pM)(So:Sound U.prog U.G F)(h:OkA U d)(hf:VR Y f x)(ha:VsR Y args xs):
  Sim U Y VR (vJ K pM U.G.cs F f args d) (call x xs):=by
 induction f with
 | bi id=>cases hf;exact rS h.handled ha
 | ty n=>cases hf;exact sS h.handled ha
 | glob a=>
  cases hf;show Sim U Y VR (match pM a args with | some r=>_ | none=>_) _;cases hr:pM a args with
  | some r=>exact P U Y a args xs r d rfl rfl h ha hr
  | none=>
   dsimp only;cases hK:K.lookup a with
   | none=>exact Sim.fail
   | some o=>
    obtain ⟨c,dd,dt,sl⟩:=o
    induction dt with
    | func fd=>induction d using nCq with
     | zero=>exact Sim.fail
     | succ d=>exact (QM W So h hK rfl ha).sim
    | cls cd=>induction d using nCq with
     | zero=>exact Sim.fail
     | succ d=>induction d using nCq with
      | zero=>exact Sim.fail
      | succ d=>exact GW W So h ha
    | _=>exact Sim.fail
 | ref a=>induction args using lCq with
  | cons=>exact Sim.fail
  | nil=>induction d using nCq with
   | zero=>exact Sim.fail
   | succ d=>
    obtain ⟨rfl⟩:xs= []:=by induction xs using lCq;rfl;exact ha.elim
    exact FP W So h hf
 | _=>exact Sim.fail
theorem MO{G:Ground}{pM:Addr->List V->Option V}{F:Fns}(W:Wd G K)(P:wI prog G pM)(So:Sound prog G F):Sound prog G (xT K pM G.cs F) where
 ev:=λU J Y x hG hp e=>by subst hG hp;exact ev_S W So e x
 tr:=λU J Y x hG hp e=>by subst hG hp;exact tr_S So e x
 exs:=λU J Y b hG hp e=>by subst hG hp;exact sV W So e b (Ext.refl _)
 wh:=λU J Y t b hG hp e=>by subst hG hp;exact wh_S So e t b
 fo:=λU J Y t b it a hG hp e ea=>by subst hG hp;exact fo_S W So e t b ea
 co:=λU J Y t i x Ag sc pos it acc ai aa hG hp e h1 h2=>by subst hG hp;exact co_S W So e h1 h2
 call:=λU Y f x args xs d hG hp h hf ha=>by subst hG hp;exact pW W P So h hf ha
theorem wX{G:Ground}{pM:Addr->List V->Option V}(W:Wd G K)(P:wI prog G pM):∀ n,Sound prog G (fns K pM G.cs n):=by
 intro n
 induction n with
 | zero=>exact yR prog G
 | succ n ih=>exact MO W P (ih)
end
variable {E:Addr->S->Prop} {H0:List O} {L0:List (Str×V)}
section
def aR:Lean.Syntax:= .node .none `Lean.Parser.Tactic.tacticSeq #[.node .none `Lean.Parser.Tactic.tacticSeq1Indented #[.node .none `null #[.node .none `Lean.Parser.Tactic.tacticRfl #[.atom .none "rfl"]]]]
def aD:Lean.Syntax:= .node .none `Lean.Parser.Tactic.tacticSeq #[.node .none `Lean.Parser.Tactic.tacticSeq1Indented #[.node .none `null #[.node .none `Lean.Parser.Tactic.decide #[.atom .none "decide",.node .none `Lean.Parser.Tactic.optConfig #[.node .none `null #[]]]]]]
structure Prg where
 K:Frag
 pM:Addr->List V->Option V
 cs:List (Addr×Addr×Str)
noncomputable abbrev Prg.fn(P:Prg)(n:Nat):Fns:=fns P.K P.pM P.cs n
def Evt(P:Prg)(p:Fns->Prop):Prop:=∃ N,∀ n,N<=n->p (P.fn n)
section
variable {P:Prg} {β:Type}
theorem Evt.always{p:Fns->Prop}(h:∀ F,p F):Evt P p:=⟨0,λn Z=>h _⟩
theorem Evt.and{p q:Fns->Prop}(h:Evt P p)(k:Evt P q):Evt P λF=>p F/\q F:=by
 obtain x11|N|h:=h;obtain x11|M|k:=k;exact ⟨max N M,λn hn=>⟨h n (aE (Nat.le_max_left ..) hn),k n (aE (Nat.le_max_right ..) hn)⟩⟩
theorem Evt.mono{p q:Fns->Prop}(h:Evt P p)(k:∀ F,p F->q F):Evt P q:=by obtain x11|N|h:=h;exact ⟨N,λn hn=>k _ (h n hn)⟩
theorem Evt.step{p:Fns->Prop}(h:Evt P λF=>p (xT P.K P.pM P.cs F)):Evt P p:=by
 obtain x11|N|h:=h;refine ⟨N+1,λn hn=>?_⟩
 induction n using nCq with
 | zero=>exact aS hn (dY N)
 | succ n=>exact h n (eY hn)
def W(P:Prg)(m:Fns->M α)(Q:α->S->Prop)(E:Addr->S->Prop)(s:S):Prop:=
 (∃ a s',Q a s'/\Evt P λF=>m F s=some (.ok a,s'))\/(∃ c s',E c s'/\Evt P λF=>m F s=some (.exc c,s'))
variable {Q:α->S->Prop} {s:S} {H:List O} {L:List (Str×V)}
theorem W.mono{Q':α->S->Prop}{E':Addr->S->Prop}{m:Fns->M α}(h:W P m Q E s)(q:∀ a s,Q a s->Q' a s)(e:∀ c s,E c s->E' c s):W P m Q' E' s:=by
 rcases h with ⟨a,s',h1,h2⟩ | ⟨c,s',h1,h2⟩
 ·exact .inl (i22 a s' (q _ _ h1) h2)
 ·exact .inr (i22 c s' (e _ _ h1) h2)
theorem W.post{Q':α->S->Prop}{m:Fns->M α}(h:W P m Q E s)(q:∀ a s,Q a s->Q' a s):W P m Q' E s:=h.mono q λZ Z h=>h
theorem W.ret{m:Fns->M α}{a:α}{s':S}(h:∀ F,m F s=some (.ok a,s'))(q:Q a s'):W P m Q E s:= .inl (i22 a s' q (Evt.always h))
theorem W.thr{m:Fns->M α}{c:Addr}{s':S}(h:∀ F,m F s=some (.exc c,s'))(q:E c s'):W P m Q E s:= .inr (i22 c s' q (Evt.always h))
theorem W.pure{a:α}(q:Q a s):W P (λZ=>Pure.pure a) Q E s:=W.ret (λZ=>rfl) q
theorem W.bind{m:Fns->M β}{f:Fns->β->M α}(h:W P m (λa s'=>W P (λF=>f F a) Q E s') E s):W P (λF=>m F >>=f F) Q E s:=by
 rcases h with ⟨a,s',h1,h2⟩ | ⟨c,s',h1,h2⟩
 ·rcases h1 with ⟨b,s2,h3,h4⟩ | ⟨c,s2,h3,h4⟩
  ·exact .inl (i22 b s2 h3 ((h2.and h4).mono λF ⟨x,y⟩=>by
    show M.bind (m F) (f F) s=_;unfold M.bind;rw [x];exact y))
  ·exact .inr (i22 c s2 h3 ((h2.and h4).mono λF ⟨x,y⟩=>by
    show M.bind (m F) (f F) s=_;unfold M.bind;rw [x];exact y))
 ·exact .inr (i22 c s' h1 (h2.mono λF x=>by
   show M.bind (m F) (f F) s=_;unfold M.bind;rw [x]))
theorem W.eq{m m':Fns->M α}(h:W P m Q E s)(e:∀ F,m' F s=m F s):W P m' Q E s:=by
 rcases h with ⟨a,s',h1,h2⟩ | ⟨c,s',h1,h2⟩
 ·exact .inl (i22 a s' h1 (h2.mono λF x=>(e F).trans x))
 ·exact .inr (i22 c s' h1 (h2.mono λF x=>(e F).trans x))
theorem W.SE{m:Fns->M α}(h:W P (λF=>m (xT P.K P.pM P.cs F)) Q E s):W P m Q E s:=by
 rcases h with ⟨a,s',h1,h2⟩ | ⟨c,s',h1,h2⟩
 ·exact .inl (i22 a s' h1 (Evt.step h2))
 ·exact .inr (i22 c s' h1 (Evt.step h2))
theorem W.AA{b:Bool}{f:Fns->Unit->M α}(hb:b=true)(h:W P (λF=>f F ()) Q E s):W P (λF=>BX b >>=f F) Q E s:=by subst hb;exact h.eq λF=>rfl
theorem W.zA{f:Fns->O->M α}(ho:s.h[n]? =some o)(h:W P (λF=>f F o) Q E s):W P (λF=>CX n >>=f F) Q E s:=h.eq λF=>by
 show M.bind (CX n) (f F) s=_;unfold M.bind CX;rw [ho]
theorem W.opt{o:Option β}{b:β}{f:Fns->β->M α}(ho:o=some b)(h:W P (λF=>f F b) Q E s):W P (λF=>DX o >>=f F) Q E s:=by subst ho;exact h.eq λF=>rfl
theorem W.VD{o:Option α}{b:α}(ho:o=some b)(h:Q b s):W P (λZ=>DX o) Q E s:=by subst ho;exact W.pure h
theorem W.alloc{Q:Nat->S->Prop}(h:Q H.length ⟨H++ [o],L⟩):W P (λZ=>FX o) Q E ⟨H,L⟩:=W.ret (λZ=>rfl) h
theorem W.jD{Q:Unit->S->Prop}(hn:n < H.length)(h:Q () ⟨H.set n o,L⟩):W P (λZ=>GX n o) Q E ⟨H,L⟩:=W.ret (λZ=>by unfold GX;rw [aN hn]) h
theorem W.pF{l:List (Str×V)}{m:Fns->M α}(h:W P m (λa s'=>Q a {s' with l:=s.l}) (λc s'=>E c {s' with l:=s.l}) {s with l:=l}):W P (λF=>HX l (m F)) Q E s:=by
 rcases h with ⟨a,s',h1,h2⟩ | ⟨c,s',h1,h2⟩
 ·exact .inl (i22 a _ h1 (h2.mono λF x=>by unfold HX;dsimp only;rw [x]))
 ·exact .inr (i22 c _ h1 (h2.mono λF x=>by unfold HX;dsimp only;rw [x]))
theorem W.QV{m:Fns->M α}(h:W P m Q (λZ Z=>False) s):W P (λF=>LX (m F)) Q E s:=by
 rcases h with ⟨a,s',h1,h2⟩ | ⟨c,s',h1,h2⟩
 ·exact .inl (i22 a _ h1 (h2.mono λF x=>by unfold LX;dsimp only;rw [x]))
 ·exact h1.elim
theorem W.SO{m:Fns->M α}{Q:Res α->S->Prop}(h:W P m (λa s'=>Q (.ok a) s') (λc s'=>Q (.exc c) s') s):W P (λF=>JX (m F)) Q E s:=by
 rcases h with ⟨a,s',h1,h2⟩ | ⟨c,s',h1,h2⟩
 ·exact .inl (i22 _ _ h1 (h2.mono λF x=>by unfold JX;dsimp only;rw [x]))
 ·exact .inl (i22 _ _ h1 (h2.mono λF x=>by unfold JX;dsimp only;rw [x]))
theorem W.ev{x:Expr}{J:Ev}{Q:V->S->Prop}(h:W P (λF=>evM P.K F x J) Q E s):W P (λF=>F.ev x J) Q E s:=W.SE h
theorem W.tr{x:Expr}{J:Ev}{Q:Bool->S->Prop}(h:W P (λF=>trM F x J) Q E s):W P (λF=>F.tr x J) Q E s:=W.SE h
theorem W.exs{b:List Stmt}{J:Ev}{Q:Flow->S->Prop}(h:W P (λF=>tB P.K F b J) Q E s):W P (λF=>F.exs b J) Q E s:=W.SE h
theorem W.wh{t:Expr}{b:List Stmt}{J:Ev}{Q:Flow->S->Prop}(h:W P (λF=>whM F t b J) Q E s):W P (λF=>F.wh t b J) Q E s:=W.SE h
theorem W.fo{t:Expr}{it:Nat}{b:List Stmt}{J:Ev}{Q:Flow->S->Prop}(h:W P (λF=>foM P.K F t it b J) Q E s):W P (λF=>F.fo t it b J) Q E s:=W.SE h
theorem W.co{t e:Expr}{Ag:List Expr}{it acc:Nat}{J:Ev}{Q:Unit->S->Prop}(h:W P (λF=>coM P.K F t e Ag it acc J) Q E s):W P (λF=>F.co t e Ag it acc J) Q E s:=W.SE h
theorem W.call{f:V}{args:List V}{Q:V->S->Prop}(h:W P (λF=>vJ P.K P.pM P.cs F f args d) Q E s):W P (λF=>F.call f args d) Q E s:=W.SE h
end
end
section
section
variable (P:Prg) (J:Ev) (E:Addr->S->Prop)
def k1{β:Type}(m:α->M β)(Q:β->S->Prop):α->S->Prop:=λa s=>W P (λZ=>m a) Q E s
def k2{β:Type}(r:Expr)(m:V->V->M β)(Q:β->S->Prop):V->S->Prop:=λa s=>W P (λF=>F.ev r J) (k1 P E (m a) Q) E s
def kB(Q:V->S->Prop):Bool->S->Prop:=λk s=>Q (.bool k) s
def kC(v:V)(Q:List V->S->Prop):List V->S->Prop:=λvs s=>Q (v::vs) s
def kO(c:List V->O)(Q:V->S->Prop):List V->S->Prop:=λvs s=>Q (.ref s.h.length) {s with h:=s.h++ [c vs]}
def kAt(x:Str)(Q:V->S->Prop):V->S->Prop:=λv s=>W P (λZ=>AF P.K v x) Q E s
def kS4(Q:V->S->Prop)(a l u:V):V->S->Prop:=λt s=>W P (λZ=>TH a l u t) Q E s
def kS3(st:Option Expr)(Q:V->S->Prop)(a l:V):V->S->Prop:=λu s=>W P (λF=>optE F st J) (kS4 P E Q a l u) E s
def kS2(hi st:Option Expr)(Q:V->S->Prop)(a:V):V->S->Prop:=λl s=>W P (λF=>optE F hi J) (kS3 P J E st Q a l) E s
def kS1(lo hi st:Option Expr)(Q:V->S->Prop):V->S->Prop:=λa s=>W P (λF=>optE F lo J) (kS2 P J E hi st Q a) E s
end
section
variable {P:Prg} {s:S} {J:Ev} {H:List O} {L:List (Str×V)}
section
theorem W.iA{c:Const}(h:uD c=some v)(q:Q v s):W P (λF=>F.ev (.Constant c k p) J) Q E s:=W.ev (W.VD h q)
theorem W.local(hx:J.scope.names.lookup x=some .local)(hd:x≠"__debug__")(hv:s.l.lookup x=some v)(q:Q v s):W P (λF=>F.ev (.Name x p) J) Q E s:=
 W.ev ((W.pure (P:=P) q).eq λF=>by
  show MJ P.K J x s=_;unfold MJ getL;rw [aJ hd,hx];dsimp only;rw [hv];rfl)
theorem W.UO(hx:J.scope.names.lookup x=some .cell\/J.scope.names.lookup x=some .free)(hd:x≠"__debug__")(hc:x≠"__classdict__")(hn:J.cells.lookup x=some n)(hv:s.h[n]? =some (.cell (some v)))(q:Q v s):W P (λF=>F.ev (.Name x p) J) Q E s:=
 W.ev ((W.pure (P:=P) q).eq λF=>by
  show MJ P.K J x s=_;unfold MJ iG;rcases hx with hx | hx <;>
  ·rw [aJ hd,hx];dsimp only;rw [aJ hc,hn];show M.bind (DX (some n)) _ s=_;unfold M.bind DX;show M.bind (CX n) _ s=_;unfold M.bind CX;rw [hv])
theorem W.glob(hx:J.scope.names.lookup x=some .globalImplicit)(hd:x≠"__debug__")(hv:HB P.K x=some v)(q:Q v s):W P (λF=>F.ev (.Name x p) J) Q E s:=
 W.ev ((W.pure (P:=P) q).eq λF=>by
  show MJ P.K J x s=_;unfold MJ;rw [aJ hd,hx];dsimp only;rw [hv];rfl)
theorem W.GA{l r:Expr}{op:Operator}(h:W P (λF=>F.ev l J) (k2 P J E r (binM op) Q) E s):W P (λF=>F.ev (.BinOp l op r p) J) Q E s:=
 W.ev (W.bind (h.post λZ Z h=>W.bind h))
theorem W.not{x:Expr}(h:W P (λF=>F.ev x J) (λv s1=>W P (λZ=>IC v) (λb s2=>Q (.bool !b) s2) E s1) E s):W P (λF=>F.ev (.UnaryOp .Not x p) J) Q E s:=
 W.ev (W.bind (h.post λZ Z h=>W.bind (h.post λZ Z h=>W.pure h)))
theorem W.neg{x:Expr}(h:W P (λF=>F.ev x J) (λv s1=>∃ i,v= .int i/\Q (.int (-i)) s1) E s):W P (λF=>F.ev (.UnaryOp .USub x p) J) Q E s:=
 W.ev (W.bind (h.post λ_ _ ⟨i,e,h⟩=>by subst e;exact W.pure h))
theorem W.ZO{t b o:Expr}(h:W P (λF=>F.tr t J) (λc s1=>if c=true then W P (λF=>F.ev b J) Q E s1 else W P (λF=>F.ev o J) Q E s1) E s):W P (λF=>F.ev (.IfExp t b o p) J) Q E s:=
 W.ev (W.bind (h.post λc s1 h=>by induction c <;> exact h))
theorem W.uL(q:Q (.ref H.length) ⟨H++ [.dict [] 0],L⟩):W P (λF=>F.ev (.Dict [] [] p) J) Q E ⟨H,L⟩:=W.ev (W.bind (W.alloc (W.pure q)))
theorem W.PU{k v:Expr}(h:W P (λF=>F.ev k J) (λa s1=>W P (λF=>F.ev v J) (λb s2=>W P (λZ=>IF H.length a b) (λZ s3=>Q (.ref H.length) s3) E s2) E s1) E ⟨H++ [.dict [] 0],L⟩):W P (λF=>F.ev (.Dict [some k] [v] p) J) Q E ⟨H,L⟩:=
 W.ev (W.bind (W.alloc (W.bind (h.post λZ Z h=>W.bind (h.post λZ Z h=>W.bind (h.post λZ Z h=>W.pure h))))))
noncomputable def WL(P:Prg)(J:Ev)(E:Addr->S->Prop):List Expr->(List V->S->Prop)->S->Prop
 | [],Q,s=>Q [] s
 | x::r,Q,s=>W P (λF=>F.ev x J) (λv s1=>WL P J E r (kC v Q) s1) E s
def kG(P:Prg)(J:Ev)(E:Addr->S->Prop)(Q:V->S->Prop)(fv:V):List V->S->Prop:=λvs s=>tC P.K fv s=some (.ok (),s)/\W P (λF=>F.call fv vs J.d) Q E s
def kF(P:Prg)(J:Ev)(E:Addr->S->Prop)(args:List Expr)(Q:V->S->Prop):V->S->Prop:=λfv s=>WL P J E args (kG P J E Q fv) s
def kH(P:Prg)(J:Ev)(E:Addr->S->Prop)(Q:V->S->Prop)(fv:V×List V):List V->S->Prop:=λvs s=>tC P.K fv.1 s=some (.ok (),s)/\W P (λF=>F.call fv.1 (fv.2++vs) J.d) Q E s
def kA(P:Prg)(J:Ev)(E:Addr->S->Prop)(args:List Expr)(Q:V->S->Prop):V×List V->S->Prop:=λfv s=>WL P J E args (kH P J E Q fv) s
def kM(P:Prg)(J:Ev)(E:Addr->S->Prop)(name:Str)(args:List Expr)(Q:V->S->Prop):V->S->Prop:=λov s=>W P (λZ=>WC P.K ov name) (kA P J E args Q) E s
theorem W.evs:∀ {xs:List Expr} {Q:List V->S->Prop} {s:S},xs.all WA=true->WL P J E xs Q s->W P (λF=>MX F xs J) Q E s:=by
 intro xs
 induction xs with
 | nil=>intro Q s _ h;exact W.pure h
 | cons x r ih=>
  intro Q s hn h;rw [gS,bY] at hn;refine W.eq (m:=λF=>F.ev x J >>=λv=>MX F r J >>=λl=>Pure.pure (v::l)) (W.bind (W.post h λv s1 h=>W.bind ((ih hn.2 h).post λZ Z h=>W.pure h))) λF=>?_;exact congrFun (aN hn.1) _
theorem W.list{xs:List Expr}(hl:decide (xs.length<=1000)=true)(hn:xs.all WA=true)(h:WL P J E xs (kO .list Q) s):W P (λF=>F.ev (.List xs p) J) Q E s:=
 W.ev (W.AA hl (W.bind ((W.evs hn h).post λZ Z h=>W.bind (W.alloc (W.pure h)))))
theorem W.TB{xs:List Expr}(hl:decide (xs.length<=1000)=true)(hn:xs.all WA=true)(h:WL P J E xs (kO .tup Q) s):W P (λF=>F.ev (.Tuple xs k p) J) Q E s:=
 W.ev (W.AA hl (W.bind ((W.evs hn h).post λZ Z h=>W.bind (W.alloc (W.pure h)))))
theorem W.UD{l r:Expr}{op:CmpOp}(hn:EB r=true)(h:W P (λF=>F.ev l J) (k2 P J E r (cmpM op) (kB Q)) E s):W P (λF=>F.ev (.Compare l [op] [r] p) J) Q E s:=
 W.ev (W.AA (by simp [hn]) (W.bind (h.post λZ Z h=>W.bind (W.bind (h.post λZ Z h=>h.post λZ Z h=>W.pure h)))))
theorem W.LA{o:Expr}{name:Str}(hp:iD o=true)(h:W P (λF=>F.ev o J) (kAt P E name Q) E s):W P (λF=>F.ev (.Attribute o name p) J) Q E s:=
 W.ev (W.AA hp (W.bind h))
theorem W.mK{o i:Expr}(hi:vC i=none)(h:W P (λF=>F.ev o J) (k2 P J E i GJ Q) E s):W P (λF=>F.ev (.Subscript o i p) J) Q E s:=by
 refine W.ev (W.eq (m:=λF=>F.ev o J >>=λov=>F.ev i J >>=λiv=>GJ ov iv) (W.bind (h.post λZ Z h=>W.bind h)) λF=>?_);show subE F o i J _=_;unfold subE;rw [hi]
theorem W.XF{o:Expr}{lo hi st:Option Expr}{p':Pos}(h:W P (λF=>F.ev o J) (kS1 P J E lo hi st Q) E s):W P (λF=>F.ev (.Subscript o (.Slice lo hi st p') p) J) Q E s:=
 W.ev (W.bind (h.post λZ Z h=>W.bind (h.post λZ Z h=>W.bind (h.post λZ Z h=>W.bind h))))
theorem W.ND(q:Q .none s):W P (λF=>optE F none J) Q E s:=W.pure q
theorem W.EG{x:Expr}(h:W P (λF=>F.ev x J) Q E s):W P (λF=>optE F (some x) J) Q E s:=h
theorem W.TO{f:Expr}{args:List Expr}(hf:xF f=none)(hl:decide (args.length < 20)=true)(hn:args.all WA=true)(h:W P (λF=>F.ev f J) (kF P J E args Q) E s):
  W P (λF=>F.ev (.Call f args [] p) J) Q E s:=by
 have hk:(List.isEmpty ([]:List Keyword) && decide (args.length < 20) && args.all WA)=true:=by rw [hl,hn];rfl
 refine W.ev (W.eq (m:=λF=>BX (List.isEmpty ([]:List Keyword) && decide (args.length < 20) && args.all WA) >>=λZ=>F.ev f J >>=λfv=>MX F args J >>=λvs=>tC P.K fv >>=λZ=>F.call fv vs J.d) (W.AA hk (W.bind (h.post λfv Z h=>W.bind ((W.evs hn h).post λvs s2 ⟨h1,h2⟩=>?_)))) λF=>?_)
 ·exact W.bind (W.ret (λF=>h1) h2)
 ·show EP P.K F f args [] p J _=_;unfold EP;rw [hf]
theorem W.KA{o:Expr}{name:Str}{oY:Pos}{args:List Expr}(hp:(iD o && oY.endLine==p.line)=true)(hl:decide (args.length < 20)=true)(hn:args.all WA=true)
  (h:W P (λF=>F.ev o J) (kM P J E name args Q) E s):
  W P (λF=>F.ev (.Call (.Attribute o name oY) args [] p) J) Q E s:=by
 have hk:(List.isEmpty ([]:List Keyword) && decide (args.length < 20) && args.all WA)=true:=by rw [hl,hn];rfl
 exact W.ev (W.AA hk (W.AA hp (W.bind (h.post λov Z h=>W.bind (h.post λfv Z h=>W.bind ((W.evs hn h).post λvs s2 ⟨h1,h2⟩=>W.bind (W.ret (λF=>h1) h2)))))))
theorem W.LR{body:Expr}{scope:Scope}{cells:List (Str×Nat)}(hq:J.lq.isSome=true)(hc:MB J scope.names [] ⟨H,L⟩=some (.ok cells,⟨H,L⟩))(q:Q (.ref H.length) ⟨H++ [.lam body scope cells],L⟩):W P (λF=>F.ev (.Lambda ⟨[],[],none,[],[],none,[]⟩ body scope p) J) Q E ⟨H,L⟩:=
 W.ev (W.AA rfl (W.AA hq (W.bind (W.ret (λZ=>hc) (W.bind (W.alloc (W.pure q)))))))
theorem W.and{x y:Expr}{r:List Expr}(h:W P (λF=>F.ev x J) (λv s1=>W P (λZ=>IC v) (λb s2=>if b=true then W P (λF=>qJ F J .And (y::r)) Q E s2 else Q v s2) E s1) E s):W P (λF=>F.ev (.BoolOp .And (x::y::r) p) J) Q E s:=
 W.ev (W.bind (h.post λv Z h=>W.bind (h.post λb Z h=>by induction b;exact W.pure h;exact h)))
theorem W.or{x y:Expr}{r:List Expr}(h:W P (λF=>F.ev x J) (λv s1=>W P (λZ=>IC v) (λb s2=>if b=true then Q v s2 else W P (λF=>qJ F J .Or (y::r)) Q E s2) E s1) E s):W P (λF=>F.ev (.BoolOp .Or (x::y::r) p) J) Q E s:=
 W.ev (W.bind (h.post λv Z h=>W.bind (h.post λb Z h=>by induction b;exact h;exact W.pure h)))
theorem W.VI{x:Expr}{op:BoolOp}(h:W P (λF=>F.ev x J) Q E s):W P (λF=>qJ F J op [x]) Q E s:=h
end
end
end
section
section
variable (P:Prg) (J:Ev) (E:Addr->S->Prop)
def kN(Q:Flow->S->Prop):α->S->Prop:=λZ s=>Q .next s
def kR(Q:Flow->S->Prop):V->S->Prop:=λv s=>Q (.ret v) s
def kSt(r:List Stmt)(Q:Flow->S->Prop):Flow->S->Prop:=λf s=>match f with | .next=>W P (λF=>tB P.K F r J) Q E s | .ret v=>Q (.ret v) s
def kAs(t:Expr)(Q:Flow->S->Prop):V->S->Prop:=λv s=>W P (λF=>sB P.K F t J v) (kN Q) E s
def kFp(t:Expr)(b:List Stmt)(Q:Flow->S->Prop):Nat->S->Prop:=λit s=>W P (λF=>F.fo t it b J) Q E s
def kFo(t:Expr)(b:List Stmt)(Q:Flow->S->Prop):V->S->Prop:=λv s=>W P (λZ=>oE v) (kFp P J E t b Q) E s
def kFl(t:Expr)(it:Nat)(b:List Stmt)(Q:Flow->S->Prop):Flow->S->Prop:=λf s=>match f with | .next=>W P (λF=>F.fo t it b J) Q E s | .ret v=>Q (.ret v) s
def kFb(b:List Stmt)(J':Flow->S->Prop):Unit->S->Prop:=λZ s=>W P (λF=>tB P.K F b J) J' E s
def kFa(t:Expr)(b:List Stmt)(J':Flow->S->Prop)(v:V):Unit->S->Prop:=λZ s=>W P (λF=>sB P.K F t J v) (kFb P J E b J') E s
def kFn(t:Expr)(it:Nat)(b:List Stmt)(Q:Flow->S->Prop):Option V->S->Prop:=λo s=>match o with | none=>Q .next s | some v=>W P (λZ=>ownM t it v) (kFa P J E t b (kFl P J E t it b Q) v) E s
def kSA(x:Str)(v:V)(Q:Unit->S->Prop):V->S->Prop:=λa s=>W P (λZ=>GE P.K a x v) Q E s
def kA1(xs:List Expr)(vs:List V)(Q:Unit->S->Prop):Unit->S->Prop:=λZ s=>W P (λF=>CC P.K F xs J vs) Q E s
end
section
variable {P:Prg} {s:S} {J:Ev} {H:List O} {L:List (Str×V)}
section
variable {Q:Bool->S->Prop}
theorem W.RC{x:Expr}(h:W P (λF=>F.tr x J) (λb s1=>Q (!b) s1) E s):W P (λF=>F.tr (.UnaryOp .Not x p) J) Q E s:=W.tr (W.bind (h.post λZ Z h=>W.pure h))
theorem W.xA{l r:Expr}{op:CmpOp}(hn:EB r=true)(h:W P (λF=>F.ev l J) (k2 P J E r (cmpM op) Q) E s):W P (λF=>F.tr (.Compare l [op] [r] p) J) Q E s:=
 W.tr (W.AA (by simp [hn]) (W.bind (h.post λZ Z h=>W.bind h)))
theorem W.mJ{l r r2:Expr}{op op2:CmpOp}(hn:(EB r && EB r2)=true)(h:W P (λF=>F.ev l J) (λa s1=>W P (λF=>F.ev r J) (λb s2=>W P (λZ=>cmpM op a b) (λk s3=>if k=true then W P (λF=>F.ev r2 J) (λc s4=>W P (λZ=>cmpM op2 b c) Q E s4) E s3 else Q false s3) E s2) E s1) E s):
  W P (λF=>F.tr (.Compare l [op,op2] [r,r2] p) J) Q E s:=
 W.tr (W.AA (by simpa using hn) (W.bind (h.post λZ Z h=>W.bind (h.post λZ Z h=>W.bind (h.post λk Z h=>by induction k;exact W.pure h;exact W.bind h)))))
theorem W.tP{xs:List Expr}(h:W P (λF=>PD F J .And xs) Q E s):W P (λF=>F.tr (.BoolOp .And xs p) J) Q E s:=W.tr h
theorem W.oF{xs:List Expr}(h:W P (λF=>PD F J .Or xs) Q E s):W P (λF=>F.tr (.BoolOp .Or xs p) J) Q E s:=W.tr h
theorem W.RO(q:Q true s):W P (λF=>PD F J .And []) Q E s:=W.pure (a:=true) q
theorem W.DG(q:Q false s):W P (λF=>PD F J .Or []) Q E s:=W.pure (a:=false) q
theorem W.IM{x:Expr}{r:List Expr}(h:W P (λF=>F.tr x J) (λb s1=>if b=true then W P (λF=>PD F J .And r) Q E s1 else Q false s1) E s):W P (λF=>PD F J .And (x::r)) Q E s:=
 W.bind (h.post λb Z h=>by induction b;exact W.pure h;exact h)
theorem W.qC{x:Expr}{r:List Expr}(h:W P (λF=>F.tr x J) (λb s1=>if b=true then Q true s1 else W P (λF=>PD F J .Or r) Q E s1) E s):W P (λF=>PD F J .Or (x::r)) Q E s:=
 W.bind (h.post λb Z h=>by induction b;exact h;exact W.pure h)
noncomputable def ZQ:Expr->Bool
 | .UnaryOp .Not _ _ | .BoolOp .. | .IfExp .. | .Compare ..=>false
 | _=>true
set_option tactic.hygienic true in
theorem W.qB{x:Expr}(hx:ZQ x=true)(h:W P (λF=>F.ev x J) (k1 P E IC Q) E s):W P (λF=>F.tr x J) Q E s:=by
 refine W.tr (W.eq (m:=λF=>F.ev x J >>=λv=>IC v) (W.bind h) λF=>?_)
 induction x using eCq <;> first | rfl | exact aS hx aW | skip
 rename_i op x p
 induction op <;> first | rfl | exact aS hx aW
end
section
variable {Q:Flow->S->Prop}
theorem W.stN(q:Q .next s):W P (λF=>tB P.K F [] J) Q E s:=W.pure q
theorem W.stC{x:Stmt}{r:List Stmt}(h:W P (λF=>RB P.K F x J) (kSt P J E r Q) E s):W P (λF=>tB P.K F (x::r) J) Q E s:=
 W.bind (h.post λf Z h=>by induction f;exact h;exact W.pure h)
theorem W.iB{x:Expr}(hn:LH x=true)(h:W P (λF=>F.ev x J) (kN Q) E s):W P (λF=>RB P.K F (.Expr x p) J) Q E s:=W.AA hn (W.bind (h.post λZ Z h=>W.pure h))
theorem W.pA{x:Expr}(h:W P (λF=>F.ev x J) (kR Q) E s):W P (λF=>RB P.K F (.Return (some x) p) J) Q E s:=W.bind (h.post λZ Z h=>W.pure h)
theorem W.pP{t x:Expr}(hn:LH x=true)(hs:TI [t] x J=some none)(h:W P (λF=>F.ev x J) (kAs P J E t Q) E s):W P (λF=>RB P.K F (.Assign [t] x p) J) Q E s:=
 W.AA hn (W.bind (h.post λv s1 h=>by
  refine W.eq (m:=λF=>sB P.K F t J v >>=λZ=>Pure.pure Flow.next) (W.bind (h.post λZ Z h=>W.pure h)) λF=>?_;rw [hs]))
theorem W.WF{t x:Expr}{names:List Str}(hn:LH x=true)(hs:TI [t] x J=some (some names))(h:W P (λF=>F.ev x J) (λv s1=>∃ vs,QD v s1=some (.ok vs,s1)/\vs.length=names.length/\W P (λZ=>LD J names.reverse vs.reverse) (λZ s2=>Q .next s2) E s1) E s):W P (λF=>RB P.K F (.Assign [t] x p) J) Q E s:=
 W.AA hn (W.bind (h.post λv s1 ⟨vs,h1,h2,h⟩=>by
  refine W.eq (m:=λF=>QD v >>=λvs=>BX (decide (vs.length=names.length)) >>=λZ=>LD J names.reverse vs.reverse >>=λZ=>Pure.pure Flow.next) (W.bind (W.ret (λZ=>h1) (W.AA (by simp [h2]) (W.bind (h.post λZ Z h=>W.pure h))))) λF=>?_;rw [hs]))
theorem W.sIf{t:Expr}{b o:List Stmt}(h:W P (λF=>F.tr t J) (λc s1=>if c=true then W P (λF=>tB P.K F b J) Q E s1 else W P (λF=>tB P.K F o J) Q E s1) E s):W P (λF=>RB P.K F (.If t b o p) J) Q E s:=
 W.bind (h.post λc Z h=>by induction c;exact W.exs h;exact W.exs h)
theorem W.mF{t:Expr}{b:List Stmt}(h:W P (λF=>F.wh t b J) Q E s):W P (λF=>RB P.K F (.While t b [] p) J) Q E s:=h
theorem W.whT{t:Expr}{b:List Stmt}(h:W P (λF=>F.tr t J) (λc s1=>if c=true then W P (λF=>tB P.K F b J) (λf s2=>match f with | .next=>W P (λF=>F.wh t b J) Q E s2 | .ret v=>Q (.ret v) s2) E s1 else Q .next s1) E s):W P (λF=>F.wh t b J) Q E s:=
 W.wh (W.bind (h.post λc s1 h=>by
  induction c with
  | false=>exact W.pure h
  | true=>exact W.bind ((W.exs h).post λf Z h=>by induction f;exact h;exact W.pure h)))
theorem W.oH{t i:Expr}{b:List Stmt}(hn:EB i=true)(h:W P (λF=>F.ev i J) (kFo P J E t b Q) E s):W P (λF=>RB P.K F (.For t i b [] p) J) Q E s:=
 W.AA hn (W.bind (h.post λZ Z h=>W.bind h))
theorem W.foT{t:Expr}{it:Nat}{b:List Stmt}(h:W P (λZ=>EF it) (kFn P J E t it b Q) E s):W P (λF=>F.fo t it b J) Q E s:=
 W.fo (W.bind (h.post λo s1 h=>by
  induction o with
  | none=>exact W.pure h
  | some v=>exact W.bind (h.post λZ Z h=>W.bind (h.post λZ Z h=>W.bind ((W.exs h).post λf Z h=>by induction f;exact h;exact W.pure h)))))
theorem W.nK{o i:Expr}{p':Pos}(h:W P (λF=>F.ev o J) (k2 P J E i nD (kN Q)) E s):W P (λF=>RB P.K F (.Delete [.Subscript o i p] p') J) Q E s:=
 W.bind (h.post λZ Z h=>W.bind (h.post λZ Z h=>W.bind (h.post λZ Z h=>W.pure h)))
theorem W.lC{a:Expr}{p1 p2 p3:Pos}{C:Addr}(hg:HB P.K x=some (.glob C))(hx:J.scope.names.lookup x=some .globalImplicit)(hn:(lQ P.K C && WA a && x !="__debug__")=true)(h:W P (λF=>F.ev a J) (λZ s1=>E C s1) E s):W P (λF=>RB P.K F (.Raise (some (.Call (.Name x p1) [a] [] p2)) none p3) J) Q E s:=by
 refine W.eq (m:=λF=>BX (lQ P.K C && WA a && x !="__debug__") >>=λZ=>F.ev a J >>=λZ=>AU C) (W.AA hn (W.bind (h.post λZ s1 h=>W.thr (λZ=>rfl) h))) λF=>?_;show SH P.K F x a J s=_;unfold SH;rw [hg,hx]
theorem W.iW{b:List Stmt}{h0:ExceptHandler}{hs:List ExceptHandler}(hst:J.stm=true)(h:W P (λF=>tB P.K F b J) Q (λC s1=>∃ u v,(nE P.K J C (h0::hs)).bind EE=some (u,v)/\Q (.ret (.ref s1.h.length)) {s1 with h:=s1.h++ [.tup [u,v]]}) s):W P (λF=>RB P.K F (.Try b (h0::hs) [] [] p) J) Q E s:=by
 refine W.AA hst (W.bind (W.SO ?_));refine (W.exs h).mono (λf s1 h=>W.pure h) λC s1 ⟨u,v,h1,h2⟩=>?_;refine W.eq (m:=λF=>FX (.tup [u,v]) >>=λn=>Pure.pure (Flow.ret (.ref n))) (W.bind (W.alloc (W.pure h2))) λF=>?_;dsimp only;rw [h1]
end
section
variable {Q:Unit->S->Prop}
theorem W.asN(hx:J.scope.names.lookup x=some .local)(q:Q () ⟨H,putA x v L⟩):W P (λF=>sB P.K F (.Name x p) J v) Q E ⟨H,L⟩:=
 W.ret (λF=>by show NB J x v ⟨H,L⟩=_;unfold NB;rw [hx];rfl) q
theorem W.asC{w:Option V}(hx:J.scope.names.lookup x=some .cell)(hn:J.cells.lookup x=some n)(hc:H[n]? =some (.cell w))(q:Q () ⟨H.set n (.cell (some v)),L⟩):W P (λF=>sB P.K F (.Name x p) J v) Q E ⟨H,L⟩:=
 W.ret (λF=>by
  show NB J x v ⟨H,L⟩=_;unfold NB iG;rw [hx,hn];show M.bind (DX (some n)) _ ⟨H,L⟩=_;unfold M.bind DX;show M.bind (CX n) _ ⟨H,L⟩=_;unfold M.bind CX;rw [hc];dsimp only;show GX n _ ⟨H,L⟩=_;unfold GX;rw [aN (aQ.mp hc).1]) q
theorem W.asA{o:Expr}{attr:Str}(h:W P (λF=>F.ev o J) (kSA P E attr v Q) E s):W P (λF=>sB P.K F (.Attribute o attr p) J v) Q E s:=W.bind h
theorem W.asI{o i:Expr}(hi:vC i=none)(h:W P (λF=>F.ev o J) (k2 P J E i (sD · · v) Q) E s):W P (λF=>sB P.K F (.Subscript o i p) J v) Q E s:=by
 refine W.eq (m:=λF=>F.ev o J >>=λov=>F.ev i J >>=λiv=>sD ov iv v) (W.bind (h.post λZ Z h=>W.bind h)) λF=>?_;show YD F o i J v _=_;unfold YD;rw [hi]
theorem W.KU{o:Expr}{lo hi:Option Expr}{p':Pos}(h:W P (λF=>F.ev o J) (λa s1=>W P (λF=>optE F lo J) (λl s2=>W P (λF=>optE F hi J) (λu s3=>W P (λZ=>ZE a l u v) Q E s3) E s2) E s1) E s):W P (λF=>sB P.K F (.Subscript o (.Slice lo hi none p') p) J v) Q E s:=
 W.bind (h.post λZ Z h=>W.bind (h.post λZ Z h=>W.bind h))
theorem W.asT{xs:List Expr}(hv:QD v s=some (.ok vs,s))(hl:(decide (vs.length=xs.length) && xs.all WA)=true)(h:W P (λF=>CC P.K F xs J vs) Q E s):W P (λF=>sB P.K F (.Tuple xs k p) J v) Q E s:=
 W.AA (Bool.and_eq_true_iff.mp hl).2 (W.bind (W.ret (λZ=>hv) (W.AA (Bool.and_eq_true_iff.mp hl).1 h)))
theorem W.as0(q:Q () s):W P (λF=>CC P.K F [] J []) Q E s:=W.pure q
theorem W.as1{x:Expr}{xs:List Expr}(hx:vD x=none)(h:W P (λF=>sB P.K F x J v) (kA1 P J E xs vs Q) E s):W P (λF=>CC P.K F (x::xs) J (v::vs)) Q E s:=
 W.bind (W.eq h λF=>by unfold sB;rw [hx])
end
end
end
section
def kV(l:List (Str×V))(Q:α->S->Prop):α->S->Prop:=λv s=>Q v {s with l:=l}
def kJ(l:List (Str×V))(Q:V->S->Prop):Flow->S->Prop:=λf s=>match f with | .next=>Q .none {s with l:=l} | .ret v=>Q v {s with l:=l}
section
variable {P:Prg} {s:S} {J:Ev}
theorem W.fn{c:Value}{dd:Option Addr}{sl:Array (Option Value)}{fd:FuncData}{body:List Stmt}{args:List V}{l:List (Str×V)}{sc:Scope}{lq:Option (Addr×Addr×Str)}(hp:P.pM a args=none)(hK:P.K.lookup a=some ⟨c,dd,.func fd,sl⟩)(hb:fd.body= .stmts body)(hf:JC P.K fd args=some vs)(hok:fdOk P.K fd=true)
  (hs:fd.scope=sc) (hq:lqOf P.cs fd=lq) (hc:∀ s:S,LB sc.names [] s=some (.ok [],s)) (hl:∀ h,CB {scope:=sc,cells:= [],d,lq:=lq,stm:=true} ((fd.params.args.map (·.arg)).zip vs) {h:=h,l:= []}=some (.ok (),{h:=h,l:=l}))
  (h:W P (λF=>tB P.K F body {scope:=sc,cells:= [],d,lq:=lq,stm:=true}) (kJ s.l Q) (kV s.l E) {h:=s.h,l:=l}):W P (λF=>F.call (.glob a) args (d+1)) Q E s:=by
 subst hs hq;refine W.call (W.eq (m:=λF=>SC P.K P.cs F fd args d) ?_ λF=>?_)
 ·refine W.eq (m:=λF=>BX (fdOk P.K fd) >>=λZ=>HX [] (LB fd.scope.names [] >>=λcells=>CB {scope:=fd.scope,cells,d,lq:=lqOf P.cs fd,stm:=true} ((fd.params.args.map (·.arg)).zip vs) >>=λZ=>F.exs body {scope:=fd.scope,cells,d,lq:=lqOf P.cs fd,stm:=true} >>=λf=>match f with | .next=>Pure.pure V.none | .ret v=>Pure.pure v)) (W.AA hok (W.pF (W.bind (W.ret (λZ=>hc _) (W.bind (W.ret (λZ=>hl _) (W.bind ((W.exs h).post λf s1 h=>?_)))))))) λF=>?_
  ·induction f <;> exact W.pure h
  ·show SC P.K P.cs F fd args d s=_;unfold SC;rw [hb,hf];try rfl
 ·show vJ P.K P.pM P.cs F (.glob a) args (d+1) s=_;unfold vJ;dsimp only;rw [hp];dsimp only;rw [hK]
theorem W.lam{body:Expr}{scope:Scope}{cells:List (Str×Nat)}(hn:s.h[n]? =some (.lam body scope cells))(hk:(scope.kind== .function && !scope.isCoroutine && !scope.isGenerator && scope.names.all (λp=>p.2 != .cell))=true)
  (h:W P (λF=>F.ev body {scope,cells,d}) (kV s.l Q) (kV s.l E) {s with l:= []}):W P (λF=>F.call (.ref n) [] (d+1)) Q E s:=
 W.call (W.eq (m:=λF=>uJ F n d) (W.zA hn (W.AA hk (W.pF h))) λF=>rfl)
theorem W.bi{id:String}{args:List V}(h:W P (λZ=>lB id args) Q E s):W P (λF=>F.call (.bi id) args d) Q E s:=W.call (W.eq h λZ=>rfl)
theorem W.ty{id:String}{args:List V}(h:W P (λZ=>ZD id args) Q E s):W P (λF=>F.call (.ty id) args d) Q E s:=W.call (W.eq h λZ=>rfl)
theorem W.fd{fd:FuncData}{body:List Stmt}{args:List V}{l:List (Str×V)}{sc:Scope}{lq:Option (Addr×Addr×Str)}(hb:fd.body= .stmts body)(hf:JC P.K fd args=some vs)(hok:fdOk P.K fd=true)
  (hs:fd.scope=sc) (hq:lqOf P.cs fd=lq) (hc:∀ s:S,LB sc.names [] s=some (.ok [],s)) (hl:∀ h,CB {scope:=sc,cells:= [],d,lq:=lq,stm:=true} ((fd.params.args.map (·.arg)).zip vs) {h:=h,l:= []}=some (.ok (),{h:=h,l:=l}))
  (h:let P':=P;let J'j:Ev:={scope:=sc,cells:= [],d,lq:=lq,stm:=true};let Q':=kJ s.l Q;let E':=kV s.l E;let L':=l;W P' (λF=>tB P'.K F body J'j) Q' E' {h:=s.h,l:=L'}):W P (λF=>SC P.K P.cs F fd args d) Q E s:=by
 subst hs hq;refine W.eq (m:=λF=>BX (fdOk P.K fd) >>=λZ=>HX [] (LB fd.scope.names [] >>=λcells=>CB {scope:=fd.scope,cells,d,lq:=lqOf P.cs fd,stm:=true} ((fd.params.args.map (·.arg)).zip vs) >>=λZ=>F.exs body {scope:=fd.scope,cells,d,lq:=lqOf P.cs fd,stm:=true} >>=λf=>match f with | .next=>Pure.pure V.none | .ret v=>Pure.pure v)) (W.AA hok (W.pF (W.bind (W.ret (λZ=>hc _) (W.bind (W.ret (λZ=>hl _) (W.bind ((W.exs h).post λf s1 h=>?_)))))))) λF=>?_
 ·induction f <;> exact W.pure h
 ·unfold SC;rw [hb,hf];try rfl
theorem W.ST{fi:Addr}{c c2:Value}{dd dd2:Option Addr}{sl sl2:Array (Option Value)}{cd:ClassData}{fd:FuncData}{args:List V}(hp:P.pM a args=none)(hK:P.K.lookup a=some ⟨c,dd,.cls cd,sl⟩)(hi:findIn P.K (.ref a) "__init__"=some (some (.ref fi)))
  (hK2:P.K.lookup fi=some ⟨c2,dd2,.func fd,sl2⟩) (hok:(makesIn P.K a && isFn P.K (.ref fi))=true)
  (h:W P (λF=>SC P.K P.cs F fd (.ref (s.h.length+1)::args) d) (λv s1=>v= .none/\Q (.ref (s.h.length+1)) s1) E {s with h:=s.h++ [.dict [] 0]++ [.inst a s.h.length]}):W P (λF=>F.call (.glob a) args (d+2)) Q E s:=by
 refine W.call (W.eq (m:=λF=>BX (makesIn P.K a && isFn P.K (.ref fi)) >>=λZ=>FX (.dict [] 0) >>=λdx=>FX (.inst a dx) >>=λx=>SC P.K P.cs F fd (.ref x::args) d >>=λr=>match r with | .none=>Pure.pure (V.ref x) | _=>EX)
  (W.AA hok (W.bind (W.alloc (W.bind (W.alloc ?_))))) λF=>?_)
 ·have e:(s.h++ [O.dict [] 0]).length=s.h.length+1:=by simp
  try dsimp only
  rw [e];exact W.bind (h.post λv s1 ⟨h1,h2⟩=>by subst h1;exact W.pure h2)
 ·show vJ P.K P.pM P.cs F (.glob a) args (d+2) s=_;unfold vJ;dsimp only;rw [hp];dsimp only;rw [hK];dsimp only;unfold RS;rw [hi];dsimp only;rw [hK2];try rfl
noncomputable def ZN(K:Frag)(C:Addr)(name:Str):Bool:=match findIn K (.ref C) name with
 | some attr=>plainGet K C name && hasDictIn K C && noGet K attr
 | none=>false
set_option tactic.hygienic true in
theorem W.rA{C:Nat}{name:Str}(hn:s.h[n]? =some (.inst C d))(hd:s.h[d]? =some (.dict es k))(ho:ZN P.K C name=true)(hl:uA (.str name) es=true)(hv:(IA (.str name) es).bind wQ=some v)(q:Q v s):
  W P (λZ=>AF P.K (.ref n) name) Q E s:=by
 unfold ZN at ho;split at ho
 ·rename_i attr hf;refine W.zA hn (W.zA hd ?_);refine W.eq (m:=λZ=>BX (plainGet P.K C name && hasDictIn P.K C && noGet P.K attr && uA (.str name) es) >>=λZ=>DX ((IA (.str name) es).bind wQ)) (W.AA (by rw [ho,hl];rfl) (W.VD hv q)) λF=>?_;dsimp only;rw [hf]
 ·cases ho
theorem W.jA{m:Fns->M α}{a:α}{Q:α->S->Prop}(hm:∀ F,m F=Pure.pure a)(q:Q a s):W P m Q E s:=(W.pure (P:=P) q).eq λF=>by rw [hm]
end
end
section
section
variable {P:Prg} {s:S} {J:Ev} {H:List O} {L:List (Str×V)}
noncomputable def qD(K:Frag)(C:Addr)(name:Str)(f:Addr):Bool:=findIn K (.ref C) name==some (some (.ref f)) && plainGet K C name && isFn K (.ref f)
theorem W.YA{C f:Nat}{name:Str}{Q:V×List V->S->Prop}(hn:s.h[n]? =some (.inst C d))(hd:s.h[d]? =some (.dict es k))(ho:qD P.K C name f=true)(hw:sN name es=false)(hl:uA (.str name) es=true)(q:Q (.glob f,[.ref n]) s):
  W P (λZ=>WC P.K (.ref n) name) Q E s:=by
 unfold qD at ho;simp only [Bool.and_eq_true,beq_iff_eq] at ho;obtain x02|Dn|o3:=ho;obtain x02|o1|o2:=Dn;refine W.zA hn (W.zA hd ?_);refine W.eq (m:=λZ=>BX (plainGet P.K C name && isFn P.K (.ref f) && !sN name es && uA (.str name) es) >>=λZ=>Pure.pure (V.glob f,[V.ref n])) (W.AA (by rw [o2,o3,hw,hl];rfl) (W.pure q)) λF=>?_;dsimp only;rw [o1]
theorem W.iK{Q:V×List V->S->Prop}(hn:s.h[n]? =some (.list vs))(q:Q (.bi "list.append",[.ref n]) s):W P (λZ=>WC P.K (.ref n) "append") Q E s:=W.zA hn (W.pure q)
theorem W.jP{Q:V×List V->S->Prop}(hn:s.h[n]? =some (.list vs))(q:Q (.bi "list.insert",[.ref n]) s):W P (λZ=>WC P.K (.ref n) "insert") Q E s:=W.zA hn (W.jA (λZ=>rfl) q)
theorem W.ZV{Q:V×List V->S->Prop}(hn:s.h[n]? =some (.list vs))(q:Q (.bi "list.pop",[.ref n]) s):W P (λZ=>WC P.K (.ref n) "pop") Q E s:=W.zA hn (W.jA (λZ=>rfl) q)
theorem W.VV{Q:V×List V->S->Prop}(hn:s.h[n]? =some (.dict es k))(q:Q (.bi "dict.get",[.ref n]) s):W P (λZ=>WC P.K (.ref n) "get") Q E s:=W.zA hn (W.jA (λZ=>rfl) q)
theorem W.YO{Q:V×List V->S->Prop}(hn:s.h[n]? =some (.dict es k))(q:Q (.bi "dict.pop",[.ref n]) s):W P (λZ=>WC P.K (.ref n) "pop") Q E s:=W.zA hn (W.jA (λZ=>rfl) q)
theorem W.WI{i:V}(hn:s.h[n]? =some (.dict es k))(hk:(wD i && uA i es)=true)(hv:IA i es=some v)(q:Q v s):W P (λZ=>GJ (.ref n) i) Q E s:=
 W.zA hn (W.AA hk (W.VD hv q))
theorem W.RE{i:Int}(hn:s.h[n]? =some (.list vs))(hi:0<=i/\i < 2 ^ 62)(hv:vs[i.toNat]? =some v)(q:Q v s):W P (λZ=>GJ (.ref n) (.int i)) Q E s:=
 W.zA hn (W.AA (aF hi) (W.VD hv q))
theorem W.VF{i:Int}(hn:s.h[n]? =some (.tup vs))(hi:0<=i/\i < 2 ^ 62)(hv:vs[i.toNat]? =some v)(q:Q v s):W P (λZ=>GJ (.ref n) (.int i)) Q E s:=
 W.zA hn (W.AA (aF hi) (W.VD hv q))
theorem CA(e:h[n]? =some o):n < h.length:=(aQ.mp e).1
theorem W.oK{i:V}{Q:Unit->S->Prop}(hn:H[n]? =some (.dict es k))(hk:(wD i && uA i es && decide (es.length<=900))=true)(q:Q () ⟨H.set n (KX i v es k),L⟩):W P (λZ=>sD (.ref n) i v) Q E ⟨H,L⟩:=
 W.zA hn (W.AA hk (W.jD (CA hn) q))
theorem W.hW{i:V}{Q:Unit->S->Prop}(hn:H[n]? =some (.dict es k))(hk:(wD i && uA i es && decide (es.length<=900))=true)(q:Q () ⟨H.set n (KX i v es k),L⟩):W P (λZ=>IF n i v) Q E ⟨H,L⟩:=
 W.zA hn (W.AA hk (W.jD (CA hn) q))
theorem W.VT{i:Int}{Q:Unit->S->Prop}(hn:H[n]? =some (.list vs))(hi:0<=i/\i < vs.length/\i < 2 ^ 62)(q:Q () ⟨H.set n (.list (vs.set i.toNat v)),L⟩):W P (λZ=>sD (.ref n) (.int i) v) Q E ⟨H,L⟩:=
 W.zA hn (W.AA (aF hi) (W.jD (CA hn) q))
theorem W.OT{i:V}{Q:Unit->S->Prop}(hn:H[n]? =some (.dict es k))(hk:(wD i && uA i es && (IA i es).isSome && decide (es.length<=900))=true)(q:Q () ⟨H.set n (.dict (zB i es) (k+1)),L⟩):W P (λZ=>nD (.ref n) i) Q E ⟨H,L⟩:=
 W.zA hn (W.AA hk (W.jD (CA hn) q))
theorem W.inD{i:V}{Q:Bool->S->Prop}(hn:s.h[n]? =some (.dict es k))(hk:(wD i && uA i es)=true)(q:Q (IA i es).isSome s):W P (λZ=>cmpM .In i (.ref n)) Q E s:=
 W.zA hn (W.AA hk (W.pure q))
theorem W.lJ{i:V}{Q:Bool->S->Prop}(hn:s.h[n]? =some (.dict es k))(hk:(wD i && uA i es)=true)(q:Q (!(IA i es).isSome) s):W P (λZ=>cmpM .NotIn i (.ref n)) Q E s:=
 W.bind (W.zA hn (W.AA hk (W.pure (W.pure q))))
theorem W.UV{i:V}(hn:s.h[n]? =some (.dict es k))(hk:(wD i && uA i es)=true)(q:Q ((IA i es).getD .none) s):W P (λZ=>lB "dict.get" [.ref n,i]) Q E s:=
 W.zA hn (W.AA hk (W.pure q))
theorem W.UT{i:V}(hn:H[n]? =some (.dict es k))(hk:(wD i && uA i es && decide (es.length<=900))=true)(hv:IA i es=some v)(q:Q v ⟨H.set n (.dict (zB i es) (k+1)),L⟩):W P (λZ=>lB "dict.pop" [.ref n,i]) Q E ⟨H,L⟩:=
 W.zA hn (W.AA hk (W.opt hv (W.bind (W.jD (CA hn) (W.pure q)))))
theorem W.pK(hn:H[n]? =some (.dict es k))(hz:decide (es.length < 64)=true)(hv:xD (es.map (·.1))=some vs)(q:Q (.ref H.length) ⟨H++ [.list vs],L⟩):W P (λZ=>lB "sorted" [.ref n]) Q E ⟨H,L⟩:=
 W.zA hn (W.AA hz (W.opt hv (W.bind (W.alloc (W.pure q)))))
theorem W.TD(hn:H[n]? =some (.list vs))(hz:decide (vs.length < 100000)=true)(q:Q .none ⟨H.set n (.list (vs++ [v])),L⟩):W P (λZ=>lB "list.append" [.ref n,v]) Q E ⟨H,L⟩:=
 W.zA hn (W.AA hz (W.bind (W.jD (CA hn) (W.pure q))))
theorem W.iP(hn:H[n]? =some (.list vs))(hz:decide (vs.length < 100000)=true)(q:Q .none ⟨H.set n (.list (v::vs)),L⟩):W P (λZ=>lB "list.insert" [.ref n,.int 0,v]) Q E ⟨H,L⟩:=
 W.zA hn (W.AA hz (W.bind (W.jD (CA hn) (W.pure q))))
theorem W.YV(hn:H[n]? =some (.list (v::vs)))(hz:decide (vs.length<=100000)=true)(q:Q v ⟨H.set n (.list vs),L⟩):W P (λZ=>lB "list.pop" [.ref n,.int 0]) Q E ⟨H,L⟩:=
 W.zA hn (W.AA hz (W.bind (W.jD (CA hn) (W.pure q))))
noncomputable def xM(K:Frag)(C:Addr)(name:Str):Bool:=findIn K (.ref C) "__setattr__"==some (some (.builtin "object.__setattr__")) && plainOver K C && takerIn K C name==some none && hasDictIn K C
theorem W.QB{C:Nat}{name:Str}{Q:Unit->S->Prop}(hn:H[n]? =some (.inst C d))(hd:H[d]? =some (.dict es k))(ho:xM P.K C name=true)(hl:(uA (.str name) es && decide (es.length<=900))=true)(q:Q () ⟨H.set d (KX (.str name) v es k),L⟩):
  W P (λZ=>GE P.K (.ref n) name v) Q E ⟨H,L⟩:=by
 unfold xM at ho;refine W.zA hn (W.zA hd (W.AA ?_ (W.jD (CA hd) q)));rw [ho,Bool.true_and];exact hl
theorem lA{t:List O}(e:h[n]? =some o):(h++t)[n]? =some o:=by rw [dC (CA e)];exact e
theorem gx{t:List O}{x:O}(e:t[k]? =some x):(h++t)[h.length+k]? =some x:=by rw [cX (bM ..),eQ];exact e
theorem oA:(h++ [o])[h.length]? =some o:=gx (k:=0) rfl
theorem rN{a b:O}:(h++ [a]++ [b])[h.length+1]? =some b:=by
 have:=oA (h:=h++ [a]) (o:=b)
 rwa [bA] at this
theorem DN(e:h[n]? =some o):h.set n o=h:=by
 obtain x11|hl|e:=aQ.mp e;subst e;exact List.set_getElem_self hl
theorem qA{m:Nat}{p:O}(hne:m≠n)(e:h[n]? =some o):(h.set m p)[n]? =some o:=by rw [fF hne];exact e
theorem RA{p:O}(e:h[n]? =some o):(h.set n p)[n]? =some p:=fO (CA e)
theorem W.heap{m:Fns->M α}{Q:α->S->Prop}{h':List O}(e:s.h=h')(h:W P m Q E {h:=h',l:=s.l}):W P m Q E s:=by subst e;exact h
end
end
section
section
variable {P:Prg} {s:S} {J:Ev} {H:List O} {L:List (Str×V)}
theorem W.AD{it:Nat}{Q:Option V->S->Prop}(hi:it < H.length)(q:Q (some v) ⟨H.set it o,L⟩):W P (λZ=>tE it o (some v)) Q E ⟨H,L⟩:=W.bind (W.jD hi (W.pure q))
theorem W.zD{it:Nat}{Q:Option V->S->Prop}(hi:it < H.length)(q:Q none ⟨H.set it .dead,L⟩):W P (λZ=>tE it o none) Q E ⟨H,L⟩:=W.bind (W.jD hi (W.pure q))
theorem W.iJ{it l i:Nat}{Q:Option V->S->Prop}(hi:H[it]? =some (.itL l i))(hl:H[l]? =some (.list vs))(h1:∀ v,vs[i]? =some v->Q (some v) ⟨H.set it (.itL l (i+1)),L⟩)(h2:vs.length<=i->Q none ⟨H.set it .dead,L⟩):W P (λZ=>EF it) Q E ⟨H,L⟩:=by
 refine W.zA hi (W.zA hl ?_);cases e:vs[i]? with
 | some v=>exact W.eq (W.AD (CA hi) (h1 v e)) λZ=>by dsimp only;rw [e]
 | none=>exact W.eq (W.zD (CA hi) (h2 (dN.mp e))) λZ=>by dsimp only;rw [e]
theorem W.nH{it i:Nat}{Q:Option V->S->Prop}(hi:H[it]? =some (.itD d i es.length n))(hd:H[d]? =some (.dict es n))(hk:yB es=true)(h1:∀ e,es[i]? =some e->Q (some e.1) ⟨H.set it (.itD d (i+1) es.length n),L⟩)(h2:es.length<=i->Q none ⟨H.set it .dead,L⟩):W P (λZ=>EF it) Q E ⟨H,L⟩:=by
 refine W.zA hi (W.zA hd (W.AA (by rw [hk];simp) ?_));cases e:es[i]? with
 | some v=>exact W.eq (W.AD (CA hi) (h1 v e)) λZ=>rfl
 | none=>exact W.eq (W.zD (o:= .itD d (i+1) es.length n) (CA hi) (h2 (dN.mp e))) λZ=>rfl
theorem W.VU{it i:Nat}{Q:Option V->S->Prop}(hi:H[it]? =some (.itS x i))(h1:∀ c,x.cps[i]? =some c->Q (some (.str ⟨#[c]⟩)) ⟨H.set it (.itS x (i+1)),L⟩)(h2:x.cps.size<=i->Q none ⟨H.set it .dead,L⟩):W P (λZ=>EF it) Q E ⟨H,L⟩:=by
 refine W.zA hi ?_;cases e:x.cps[i]? with
 | some v=>exact W.eq (W.AD (CA hi) (h1 v e)) λZ=>by dsimp only;rw [e];rfl
 | none=>exact W.eq (W.zD (CA hi) (h2 (by simpa using e))) λZ=>by dsimp only;rw [e];rfl
theorem W.oP{it:Nat}{x left step:Int}{Q:Option V->S->Prop}(hi:H[it]? =some (.itR x left step))(h1:0 < left->Q (some (.int x)) ⟨H.set it (.itR (x+step) (left - 1) step),L⟩)(h2:left<=0->Q none ⟨H.set it .dead,L⟩):W P (λZ=>EF it) Q E ⟨H,L⟩:=by
 refine W.zA hi ?_;by_cases e:0 < left
 ·exact W.eq (W.AD (CA hi) (h1 e)) λZ=>by dsimp only;rw [aN e]
 ·exact W.eq (W.zD (CA hi) (h2 (dG.mp e))) λZ=>by dsimp only;rw [aJ e]
theorem W.jF{it:Nat}{Q:Unit->S->Prop}(q:Q () s):W P (λZ=>ownM (.Name x p) it v) Q E s:=W.pure q
theorem W.XV{xs:List Expr}{it l i:Nat}{Q:Unit->S->Prop}(hi:s.h[it]? =some (.itL l i))(q:Q () s):W P (λZ=>ownM (.Tuple xs k p) it v) Q E s:=W.zA hi (W.pure q)
theorem W.YI{Q:Nat->S->Prop}(hn:H[n]? =some (.list vs))(q:Q H.length ⟨H++ [.itL n 0],L⟩):W P (λZ=>oE (.ref n)) Q E ⟨H,L⟩:=W.zA hn (W.alloc q)
theorem W.XI{Q:Nat->S->Prop}(hn:H[n]? =some (.dict es k))(hk:yB es=true)(q:Q H.length ⟨H++ [.itD n 0 es.length k],L⟩):W P (λZ=>oE (.ref n)) Q E ⟨H,L⟩:=W.zA hn (W.AA hk (W.alloc q))
theorem W.SU{Q:Nat->S->Prop}(q:Q H.length ⟨H++ [.itS x 0],L⟩):W P (λZ=>oE (.str x)) Q E ⟨H,L⟩:=W.alloc q
theorem W.PT{it l:Nat}{b:List Stmt}{Q:Flow->S->Prop}{I:Nat->S->Prop}(hx:J.scope.names.lookup x=some .local)(hI:∀ i s,I i s->s.h[it]? =some (.itL l i)/\s.h[l]? =some (.list vs))
  (turn:∀ i v s,I i s->vs[i]? =some v->W P (λF=>tB P.K F b J) (λf s2=>match f with | .next=>I (i+1) s2 | .ret v=>Q (.ret v) s2) E {h:=s.h.set it (.itL l (i+1)),l:=putA x v s.l})
  (fin:∀ s,I vs.length s->Q .next {s with h:=s.h.set it .dead}):∀ (m i:Nat) (s:S),i+m=vs.length->I i s->W P (λF=>F.fo (.Name x p) it b J) Q E s:=by
 intro m
 induction m with
 | zero=>
  intro i s hm h;obtain x02|h1|h2:=hI i s h;have hi:i=vs.length:=hm;subst hi;exact W.foT (W.iJ h1 h2 (λv hv=>by simp at hv) λZ=>fin s h)
 | succ m ih=>
  intro i s hm h;obtain x02|h1|h2:=hI i s h;refine W.foT (W.iJ h1 h2 (λv hv=>?_) λhl=>iX hm hl);refine W.jF (W.asN hx ((turn i v s h hv).post λf s2 h2=>?_))
  induction f with
  | next=>exact ih (i+1) s2 (iS hm) h2
  | ret v=>exact h2
theorem W.xI{elt t jZ:Expr}{Ag:List Expr}{scope:Scope}{cells:List (Str×Nat)}(hc:MB J scope.names [] s=some (.ok cells,s))(hk:(tF scope && EB jZ)=true)
  (h:W P (λF=>F.ev jZ J) (λv s1=>W P (λZ=>oE v) (λit s2=>W P (λF=>F.co t elt Ag it s2.h.length {scope:=JA J scope,cells,d:=J.d}) (λZ s3=>Q (.ref s2.h.length) {s3 with l:=s2.l}) (λZ Z=>False) {h:=s2.h++ [.list []],l:= []}) E s1) E s):
  W P (λF=>F.ev (.ListComp elt [⟨t,jZ,Ag,0⟩] scope p) J) Q E s:=
 W.ev (W.AA hk (W.bind (W.ret (λZ=>hc) (W.bind (h.post λv s1 h=>W.bind (h.post λit s2 h=>W.bind (W.alloc (W.bind (W.QV (W.pF (h.mono (λZ s3 h=>W.pure h) λZ Z h=>h)))))))))))
theorem W.coT{t elt:Expr}{Ag:List Expr}{it acc:Nat}{Q:Unit->S->Prop}(h:W P (λZ=>EF it) (λo s1=>match o with
   | none=>Q () s1
   | some v=>W P (λZ=>ownM t it v) (λZ s2=>W P (λF=>sB P.K F t J v) (λZ s3=>W P (λF=>RD F J Ag) (λok s4=>if ok=true then W P (λF=>F.ev elt J) (λx s5=>W P (λZ=>lB "list.append" [.ref acc,x]) (λZ s6=>W P (λF=>F.co t elt Ag it acc J) Q E s6) E s5) E s4
     else W P (λF=>F.co t elt Ag it acc J) Q E s4) E s3) E s2) E s1) E s):W P (λF=>F.co t elt Ag it acc J) Q E s:=
 W.co (W.bind (h.post λo s1 h=>by
  induction o with
  | none=>exact W.pure h
  | some v=>exact W.bind (h.post λZ Z h=>W.bind (h.post λZ Z h=>W.bind (h.post λok s4 h=>by
    induction ok with
    | true=>exact W.bind (h.post λZ Z h=>W.bind (h.post λZ Z h=>h))
    | false=>exact h)))))
theorem W.WD{Q:Bool->S->Prop}(q:Q true s):W P (λF=>RD F J []) Q E s:=W.pure q
theorem W.ED{c:Expr}{Q:Bool->S->Prop}(h:W P (λF=>F.tr c J) Q E s):W P (λF=>RD F J [c]) Q E s:=h
end
end
section
def Pre(h0 h:List O):Prop:=∃ t,h=h0++t
theorem Pre.refl(h:List O):Pre h h:=⟨[],by simp⟩
theorem Pre.trans{a b c:List O}(x:Pre a b)(y:Pre b c):Pre a c:=by
 obtain x11|t|rfl:=x;obtain x11|u|rfl:=y;exact ⟨t++u,by exact eT ..⟩
theorem Pre.app(h t:List O):Pre h (h++t):=⟨t,rfl⟩
theorem Pre.get{h0:List O}(x:Pre h0 h)(e:h0[n]? =some o):h[n]? =some o:=by
 obtain x11|t|rfl:=x;exact lA e
theorem Pre.len{h0:List O}(x:Pre h0 h):h0.length<=h.length:=by obtain x11|t|rfl:=x;simp
theorem Pre.set{h0:List O}(x:Pre h0 h)(hn:h0.length<=n):Pre h0 (h.set n o):=by
 obtain x11|t|rfl:=x;exact ⟨t.set (n - h0.length) o,by rw [List.set_append_right _ _ hn]⟩
section
variable {P:Prg} {s:S} {J:Ev} {H:List O} {L:List (Str×V)}
theorem OC:∀ l:List (Str×V),(putA x v l).lookup x=some v:=by
 intro l
 induction l with
 | nil=>rw [yU];simp
 | cons z0 r ih=>
  obtain ⟨y,u⟩:=z0;rw [jR];by_cases h:y=x
  ·subst h;simp
  ·rw [aJ h,bQ];have:(x==y)=false:=by simpa using λe:x=y=>h e.symm
   rw [this];exact ih
theorem W.coG{elt:Expr}{Ag:List Expr}{it acc:Nat}{h0:List O}{f:V->V}{g:V->Bool}(st:Nat->O)(hx:J.scope.names.lookup x=some .local)(hi:h0.length<=it)(ha:h0.length<=acc)(hne:it≠acc)(hz:vs.length<=1000)
  (nx:∀ i (s:S) (Q:Option V->S->Prop),Pre h0 s.h->s.h[it]? =some (st i)->i<=vs.length->(∀ v,vs[i]? =some v->Q (some v) {s with h:=s.h.set it (st (i+1))})->(vs.length<=i->Q none {s with h:=s.h.set it .dead})->W P (λZ=>EF it) Q (λZ Z=>False) s)
  (mZ:∀ v∈vs,∀ h lo,Pre h0 h->lo.lookup x=some v->W P (λF=>RD F J Ag) (λb s'=>b=g v/\Pre h s'.h/\s'.l=lo) (λZ Z=>False) {h:=h,l:=lo})
  (el:∀ v∈vs,g v=true->∀ h lo,Pre h0 h->lo.lookup x=some v->W P (λF=>F.ev elt J) (λy s'=>y=f v/\Pre h s'.h/\s'.l=lo) (λZ Z=>False) {h:=h,l:=lo}):
  ∀ (m i:Nat) (s:S),i+m=vs.length->Pre h0 s.h->s.h[it]? =some (st i)->s.h[acc]? =some (.list (((vs.take i).filter g).map f))->
   W P (λF=>F.co (.Name x p) elt Ag it acc J) (λZ s'=>Pre h0 s'.h/\s'.h[acc]? =some (.list ((vs.filter g).map f))) (λZ Z=>False) s:=by
 intro m
 induction m with
 | zero=>
  intro i s hm hp h1 h2;have hi':i=vs.length:=hm;subst hi';refine W.coT (nx _ _ _ hp h1 (aY _) (λv hv=>by simp at hv) λZ=>⟨hp.set hi,qA hne ?_⟩);rw [gJ] at h2;exact h2
 | succ m ih=>
  intro i s hm hp h1 h2;refine W.coT (nx _ _ _ hp h1 (cC (iN hm)) (λv hv=>?_) λhl=>iX hm hl);have hlt:i < vs.length:=iN hm;have hv':vs[i]=v:=by rw [bK hlt] at hv;exact Option.some.inj hv
  have hmem:v∈vs:=hv'▸List.getElem_mem hlt;have Bt:vs.take (i+1)=vs.take i++ [v]:=by rw [List.take_add_one,hv];rfl
  refine W.jF (W.asN hx ((mZ v hmem _ _ (hp.set hi) (OC _)).post λb s2 ii=>?_));obtain x03|hb|Am|hl2:=ii;have e1:=Am.get (RA (p:=st (i+1)) h1);have e2:=Am.get (qA (p:=st (i+1)) hne h2);have Bv:=(hp.set (o:=st (i+1)) hi).trans Am;subst hb;cases hg:g v with
  | false=>
   refine ih (i+1) s2 (iS hm) Bv e1 ?_;rw [Bt,gY,dH,hg];simpa using e2
  | true=>
   rw [aN rfl];refine (W.heap (s:=s2) rfl ?_);rw [hl2];refine (el v hmem hg s2.h _ Bv (OC _)).post λy s3 ii=>?_;obtain x03|hy|Ax|hl3:=ii;subst hy;refine W.TD (Ax.get e2) ?_ ?_
   ·refine aF (bF (m:=vs.length) ?_ (bF hz (by decide)));rw [aO];exact aE (dU _ _) (List.length_take_le' _ _)
   ·refine ih (i+1) _ (iS hm) ((Bv.trans Ax).set ha) (qA (Ne.symm hne) (Ax.get e1)) ?_;rw [Bt,gY,dH,hg];simpa using RA (p:= .list (List.map f (List.filter g (List.take i vs))++ [f v])) (Ax.get e2)
theorem W.JM{s1:S}{elt:Expr}{Ag:List Expr}{f:V->V}{g:V->Bool}(st:Nat->O)(hx:J.scope.names.lookup x=some .local)(hz:vs.length<=1000)
  (nx:∀ i (s:S) (Q:Option V->S->Prop),Pre s1.h s.h->s.h[s1.h.length]? =some (st i)->i<=vs.length->(∀ v,vs[i]? =some v->Q (some v) {s with h:=s.h.set s1.h.length (st (i+1))})->(vs.length<=i->Q none {s with h:=s.h.set s1.h.length .dead})->W P (λZ=>EF s1.h.length) Q (λZ Z=>False) s)
  (mZ:∀ v∈vs,∀ h lo,Pre s1.h h->lo.lookup x=some v->W P (λF=>RD F J Ag) (λb s'=>b=g v/\Pre h s'.h/\s'.l=lo) (λZ Z=>False) {h:=h,l:=lo})
  (el:∀ v∈vs,g v=true->∀ h lo,Pre s1.h h->lo.lookup x=some v->W P (λF=>F.ev elt J) (λy s'=>y=f v/\Pre h s'.h/\s'.l=lo) (λZ Z=>False) {h:=h,l:=lo})
  (hq:∀ h acc,Pre s1.h h->s1.h.length<=acc->h[acc]? =some (.list ((vs.filter g).map f))->Q (.ref acc) {h:=h,l:=s1.l}):
  W P (λF=>F.co (.Name x p) elt Ag s1.h.length (s1.h++ [st 0]).length J) (λZ s3=>Q (.ref (s1.h++ [st 0]).length) {s3 with l:=s1.l}) (λZ Z=>False) {h:=s1.h++ [st 0]++ [.list []],l:= []}:=by
 have hlen:(s1.h++ [st 0]).length=s1.h.length+1:=bA;refine (W.coG (h0:=s1.h) (vs:=vs) (f:=f) (g:=g) st hx (aY _) (by rw [hlen];exact cE _) (by rw [hlen];exact (cK _).symm) hz nx mZ el vs.length 0 _ (cW _) ((Pre.app _ _).trans (Pre.app _ _)) (lA oA) oA).post λ_ s3 ii=>?_;obtain x02|h1|h2:=ii;exact hq s3.h _ h1 (by rw [hlen];exact cE _) h2
theorem W.sL{px:Pos}{elt jZ:Expr}{Ag:List Expr}{scope:Scope}{cells:List (Str×Nat)}(hc:MB J scope.names [] s=some (.ok cells,s))(hk:(tF scope && EB jZ)=true)(hx:(JA J scope).names.lookup x=some .local)
  (h:W P (λF=>F.ev jZ J) (λv s1=>∃ l vs f g,v= .ref l/\s1.h[l]? =some (.list vs)/\vs.length<=1000/\
   (∀ v∈vs,∀ h lo,Pre s1.h h->lo.lookup x=some v->W P (λF=>RD F {scope:=JA J scope,cells,d:=J.d} Ag) (λb s'=>b=g v/\Pre h s'.h/\s'.l=lo) (λZ Z=>False) {h:=h,l:=lo})/\
   (∀ v∈vs,g v=true->∀ h lo,Pre s1.h h->lo.lookup x=some v->W P (λF=>F.ev elt {scope:=JA J scope,cells,d:=J.d}) (λy s'=>y=f v/\Pre h s'.h/\s'.l=lo) (λZ Z=>False) {h:=h,l:=lo})/\
   ∀ h acc,Pre s1.h h->s1.h.length<=acc->h[acc]? =some (.list ((vs.filter g).map f))->Q (.ref acc) {h:=h,l:=s1.l}) E s):
  W P (λF=>F.ev (.ListComp elt [⟨.Name x px,jZ,Ag,0⟩] scope p) J) Q E s:=by
 refine W.xI hc hk (h.post λv s1 ii=>?_);obtain x42|l|vs|f|g|e|Dq:=ii;obtain x05|hl|hz|ht|he|hq:=Dq;subst e;refine W.YI hl ?_;exact W.JM (λi=> .itL l i) hx hz (λi s2 Q2 hp h1 Z q1 q2=>W.iJ h1 (hp.get hl) q1 q2) ht he hq
def HU(P:Prg)(J:Ev)(x:Str)(elt:Expr)(Ag:List Expr)(h0:List O)(vs:List V)(f:V->V)(g:V->Bool):Prop:=
 (∀ v∈vs,∀ h lo,Pre h0 h->lo.lookup x=some v->W P (λF=>RD F J Ag) (λb s'=>b=g v/\Pre h s'.h/\s'.l=lo) (λZ Z=>False) {h:=h,l:=lo})/\
 (∀ v∈vs,g v=true->∀ h lo,Pre h0 h->lo.lookup x=some v->W P (λF=>F.ev elt J) (λy s'=>y=f v/\Pre h s'.h/\s'.l=lo) (λZ Z=>False) {h:=h,l:=lo})
theorem W.OU{px:Pos}{elt jZ:Expr}{Ag:List Expr}{scope:Scope}{cells:List (Str×Nat)}(hc:MB J scope.names [] s=some (.ok cells,s))(hk:(tF scope && EB jZ)=true)(hx:(JA J scope).names.lookup x=some .local)
  (h:W P (λF=>F.ev jZ J) (λv s1=>∃ r es k f g,v= .ref r/\s1.h[r]? =some (.dict es k)/\yB es=true/\es.length<=1000/\HU P {scope:=JA J scope,cells,d:=J.d} x elt Ag s1.h (es.map (·.1)) f g/\
   ∀ h acc,Pre s1.h h->s1.h.length<=acc->h[acc]? =some (.list (((es.map (·.1)).filter g).map f))->Q (.ref acc) {h:=h,l:=s1.l}) E s):
  W P (λF=>F.ev (.ListComp elt [⟨.Name x px,jZ,Ag,0⟩] scope p) J) Q E s:=by
 refine W.xI hc hk (h.post λv s1 ii=>?_);obtain x51|r|es|k|f|g|Dp:=ii;obtain x06|e|hl|hi|hz|Dt|hq:=Dp;obtain x02|ht|he:=Dt;subst e;refine W.XI hl hi ?_;exact W.JM (λi=> .itD r i es.length k) hx (by rw [aO];exact hz) (λi s2 Q2 hp h1 Z q1 q2=>W.nH h1 (hp.get hl) hi (λe he=>q1 e.1 (by rw [bS,he];rfl)) λAr=>q2 (by rw [aO];exact Ar)) ht he hq
theorem W.XO{px:Pos}{elt jZ:Expr}{Ag:List Expr}{scope:Scope}{cells:List (Str×Nat)}(hc:MB J scope.names [] s=some (.ok cells,s))(hk:(tF scope && EB jZ)=true)(hx:(JA J scope).names.lookup x=some .local)
  (h:W P (λF=>F.ev jZ J) (λv s1=>∃ t f g,v= .str t/\t.cps.size<=1000/\HU P {scope:=JA J scope,cells,d:=J.d} x elt Ag s1.h (t.cps.toList.map λc=> .str ⟨#[c]⟩) f g/\
   ∀ h acc,Pre s1.h h->s1.h.length<=acc->h[acc]? =some (.list (((t.cps.toList.map λc=>V.str ⟨#[c]⟩).filter g).map f))->Q (.ref acc) {h:=h,l:=s1.l}) E s):
  W P (λF=>F.ev (.ListComp elt [⟨.Name x px,jZ,Ag,0⟩] scope p) J) Q E s:=by
 refine W.xI hc hk (h.post λv s1 ii=>?_);obtain x33|t|f|g|e|hz|Do:=ii;obtain x02|Ds|hq:=Do;obtain x02|ht|he:=Ds;subst e;refine W.SU ?_;exact W.JM (λi=> .itS t i) hx (by rw [aO];exact hz) (λi s2 Q2 hp h1 Z q1 q2=>W.VU h1 (λc hc=>q1 _ (by rw [bS,fU,hc];rfl)) λAr=>q2 (by rw [aO];exact Ar)) ht he hq
def kI(I:Nat->S->Prop)(Q:Flow->S->Prop)(i:Nat):Flow->S->Prop:=λf s=>match f with | .next=>I (i+1) s | .ret v=>Q (.ret v) s
theorem W.KM{t:Expr}{it:Nat}{b:List Stmt}{Q:Flow->S->Prop}{I:Nat->S->Prop}(st:Nat->O)
  (nx:∀ i (s:S) (Q:Option V->S->Prop),I i s->i<=vs.length->(∀ v,vs[i]? =some v->Q (some v) {s with h:=s.h.set it (st (i+1))})->(vs.length<=i->Q none {s with h:=s.h.set it .dead})->W P (λZ=>EF it) Q E s)
  (turn:∀ i v s,I i s->vs[i]? =some v->W P (λZ=>ownM t it v) (kFa P J E t b (kI I Q i) v) E {s with h:=s.h.set it (st (i+1))})
  (fin:∀ s,I vs.length s->Q .next {s with h:=s.h.set it .dead}):∀ (m i:Nat) (s:S),i+m=vs.length->I i s->W P (λF=>F.fo t it b J) Q E s:=by
 intro m
 induction m with
 | zero=>
  intro i s hm h;have hi:i=vs.length:=hm;subst hi;exact W.foT (nx _ s _ h (aY _) (λv hv=>by simp at hv) λZ=>fin s h)
 | succ m ih=>
  intro i s hm h;refine W.foT (nx i s _ h (cC (iN hm)) (λv hv=>?_) λhl=>iX hm hl);refine (turn i v s h hv).post λZ s2 h2=>h2.post λZ s3 h3=>h3.post λf s4 h4=>?_
  induction f with
  | next=>exact ih (i+1) s4 (iS hm) h4
  | ret v=>exact h4
theorem W.kP{a b c:Int}{Q:Nat->S->Prop}(hn:H[n]? =some (.rng a b c))(hk:Builtin.Range.small a b c=true)(q:Q H.length ⟨H++ [.itR a (Builtin.Range.rangeSize a b c) c],L⟩):W P (λZ=>oE (.ref n)) Q E ⟨H,L⟩:=W.zA hn (W.AA hk (W.alloc q))
theorem W.WO{px:Pos}{elt jZ:Expr}{Ag:List Expr}{scope:Scope}{cells:List (Str×Nat)}(hc:MB J scope.names [] s=some (.ok cells,s))(hk:(tF scope && EB jZ)=true)(hx:(JA J scope).names.lookup x=some .local)
  (h:W P (λF=>F.ev jZ J) (λv s1=>∃ r a b c,∃ n:Nat,∃ f g,v= .ref r/\s1.h[r]? =some (.rng a b c)/\Builtin.Range.small a b c=true/\Builtin.Range.rangeSize a b c=n/\n<=1000/\HU P {scope:=JA J scope,cells,d:=J.d} x elt Ag s1.h ((List.range n).map λi:Nat=> .int (a+c*(i:Int))) f g/\
   ∀ h acc,Pre s1.h h->s1.h.length<=acc->h[acc]? =some (.list ((((List.range n).map λi:Nat=>V.int (a+c*(i:Int))).filter g).map f))->Q (.ref acc) {h:=h,l:=s1.l}) E s):
  W P (λF=>F.ev (.ListComp elt [⟨.Name x px,jZ,Ag,0⟩] scope p) J) Q E s:=by
 refine W.xI hc hk (h.post λv s1 ii=>?_);obtain x51|r|a|b|c|n|Dn:=ii;obtain x24|f|g|e|hl|hsm|Dr:=Dn;obtain x04|Af|hz|Du|hq:=Dr;obtain ⟨ht,he⟩:=Du;subst e;refine W.kP hl hsm ?_;rw [Af,show O.itR a (n:Int) c=(λi:Nat=>O.itR (a+c*(i:Int)) ((n:Int) - i) c) 0 from aU (O.itR · _ c) ((dZ a).symm.trans (aU (a+ ·) (Int.mul_zero c).symm))] at ⊢;refine W.JM (λi:Nat=> .itR (a+c*(i:Int)) ((n:Int) - i) c) hx (by rw [aO,List.length_range];exact hz) (λi s2 Q2 hp h1 Ar q1 q2=>?_) ht he hq;refine W.oP h1 (λhlt=>?_) λAr=>q2 (by rw [aO,List.length_range];exact cO.mp (Int.le_of_sub_nonpos Ar));have e1:a+c*(i:Int)+c=a+c*((i+1:Nat):Int):=by rw [Int.natCast_add,Int.mul_add,<-dD];exact aU _ (Int.mul_one c).symm
 have e2:(n:Int) - i - 1=(n:Int) - ((i+1:Nat):Int):=Int.sub_sub ..;rw [e1,e2];exact q1 _ (by rw [bS,eX (eG.mp (Int.lt_of_sub_pos hlt))];rfl)
theorem W.fnK{c:Value}{dd:Option Addr}{sl:Array (Option Value)}{fd:FuncData}{body:List Stmt}{args:List V}{cells:List (Str×Nat)}{s1:S}{sc:Scope}{lq:Option (Addr×Addr×Str)}{bs:List (Str×V)}(hp:P.pM a args=none)(hK:P.K.lookup a=some ⟨c,dd,.func fd,sl⟩)(hb:fd.body= .stmts body)(hf:JC P.K fd args=some vs)(hok:fdOk P.K fd=true)
  (hs:fd.scope=sc) (hq:lqOf P.cs fd=lq) (hbs:(fd.params.args.map (·.arg)).zip vs=bs) (hc:LB sc.names [] {s with l:= []}=some (.ok cells,s1))
  (h:let P':=P;let J'j:Ev:={scope:=sc,cells,d,lq:=lq,stm:=true};let Q':=kJ s.l Q;let E':=kV s.l E;W P' (λZ=>CB J'j bs) (kFb P' J'j E' body Q') E' s1):W P (λF=>F.call (.glob a) args (d+1)) Q E s:=by
 subst hs hq hbs;dsimp only at h;refine W.call (W.eq (m:=λF=>SC P.K P.cs F fd args d) ?_ λF=>?_)
 ·refine W.eq (m:=λF=>BX (fdOk P.K fd) >>=λZ=>HX [] (LB fd.scope.names [] >>=λcells=>CB {scope:=fd.scope,cells,d,lq:=lqOf P.cs fd,stm:=true} ((fd.params.args.map (·.arg)).zip vs) >>=λZ=>F.exs body {scope:=fd.scope,cells,d,lq:=lqOf P.cs fd,stm:=true} >>=λf=>match f with | .next=>Pure.pure V.none | .ret v=>Pure.pure v)) (W.AA hok (W.pF (W.bind (W.ret (λZ=>hc) (W.bind (h.post λZ s2 h=>W.bind ((W.exs h).post λf s1 h=>?_))))))) λF=>?_
  ·induction f <;> exact W.pure h
  ·show SC P.K P.cs F fd args d s=_;unfold SC;rw [hb,hf];try rfl
 ·show vJ P.K P.pM P.cs F (.glob a) args (d+1) s=_;unfold vJ;dsimp only;rw [hp];dsimp only;rw [hK]
theorem W.LM{Q:Unit->S->Prop}(q:Q () s):W P (λZ=>CB J []) Q E s:=W.pure q
theorem W.TT{r:List (Str×V)}{Q:Unit->S->Prop}(hx:J.scope.names.lookup x=some .local)(h:W P (λZ=>CB J r) Q E ⟨H,putA x v L⟩):W P (λZ=>CB J ((x,v)::r)) Q E ⟨H,L⟩:=
 W.bind (W.ret (λF=>by show NB J x v ⟨H,L⟩=_;unfold NB;rw [hx];rfl) h)
theorem W.MM{w:Option V}{r:List (Str×V)}{Q:Unit->S->Prop}(hx:J.scope.names.lookup x=some .cell)(hn:J.cells.lookup x=some n)(hc:H[n]? =some (.cell w))(h:W P (λZ=>CB J r) Q E ⟨H.set n (.cell (some v)),L⟩):W P (λZ=>CB J ((x,v)::r)) Q E ⟨H,L⟩:=
 W.bind (W.ret (λF=>by
  show NB J x v ⟨H,L⟩=_;unfold NB iG;rw [hx,hn];show M.bind (DX (some n)) _ ⟨H,L⟩=_;unfold M.bind DX;show M.bind (CX n) _ ⟨H,L⟩=_;unfold M.bind CX;rw [hc];dsimp only;show GX n _ ⟨H,L⟩=_;unfold GX;rw [aN (aQ.mp hc).1]) h)
noncomputable def LE:List (Str×NameKind)->Nat->List (Str×Nat)->List (Str×Nat)
 | [],_,acc=>acc
 | q::r,m,acc=>if q.2== .cell then LE r (m+1) ((q.1,m)::acc) else LE r m acc
noncomputable def yJ:List (Str×NameKind)->List (Option V)
 | []=> []
 | q::r=>if q.2== .cell then none::yJ r else yJ r
noncomputable def upIx(m:Nat)(q:Str×Nat):Str×Nat:=(q.1,m+q.2)
noncomputable def CR(names:List (Str×NameKind))(ix:List (Str×Nat))(q:Str×V)(p:List (Option V)×List (Str×V)):Option (List (Option V)×List (Str×V)):=
 if names.lookup q.1=some .local then some (p.1,putA q.1 q.2 p.2)
 else (if names.lookup q.1=some .cell then ix.lookup q.1 else none).bind λi=>p.1[i]?.bind λZ=>some (p.1.set i (some q.2),p.2)
noncomputable def mW(names:List (Str×NameKind))(ix:List (Str×Nat))(bs:List (Str×V))(p:List (Option V)×List (Str×V)):Option (List (Option V)×List (Str×V)):=bs.foldlM (λp q=>CR names ix q p) p
theorem LS{c:Prop} [Decidable c]{a:Option α}{b:α}(h:(if c then a else none)=some b):c/\a=some b:=by
 by_cases hc:c
 ·exact ⟨hc,(aN hc).symm.trans h⟩
 ·exact aS ((aJ hc).symm.trans h) nofun
theorem xJ{q:Str×NameKind}{r:List (Str×NameKind)}{m:Nat}{acc:List (Str×Nat)}:LE (q::r) m acc=if q.2== .cell then LE r (m+1) ((q.1,m)::acc) else LE r m acc:=rfl
theorem HP(m:Nat):∀ (names:List (Str×NameKind)) (j:Nat) (acc:List (Str×Nat)),LE names (m+j) (acc.map (upIx m))=(LE names j acc).map (upIx m):=by
 intro names
 induction names with
 | nil=>intro _ _;exact rfl
 | cons q r ih=>
  intro j acc;rw [xJ,xJ];cases q.2==NameKind.cell with
  | true=>exact ih (j+1) ((q.1,j)::acc)
  | false=>exact ih j acc
theorem IP:∀ (names:List (Str×NameKind)) (acc:List (Str×Nat)) (H:List O) (L:List (Str×V)),LB names acc ⟨H,L⟩=some (.ok (LE names H.length acc),⟨H++(yJ names).map O.cell,L⟩):=by
 intro names
 induction names with
 | nil=>intro acc H L;rw [show H++(yJ []).map O.cell=H from eW H];rfl
 | cons q r ih=>
  intro acc H L;have e:=ih;rw [show LB (q::r) acc=if q.2== .cell then FX (.cell none) >>=λc=>LB r ((q.1,c)::acc) else LB r acc from rfl,xJ,show yJ (q::r)=if q.2== .cell then none::yJ r else yJ r from rfl];cases q.2==NameKind.cell with
  | true=>
   have e:=e ((q.1,H.length)::acc) (H++ [.cell none]) L;rw [bA,eT] at e;exact e
  | false=>exact e acc H L
theorem KQ(m:Nat)(x:Str):∀ l:List (Str×Nat),(l.map (upIx m)).lookup x=(l.lookup x).map (m+ ·):=by
 intro l
 induction l with
 | nil=>exact rfl
 | cons q r ih=>
  rw [bJ,bQ,bQ,ih];show (bif x==q.1 then _ else _)=_;cases x==q.1 <;> rfl
theorem PO{names:List (Str×NameKind)}{ix:List (Str×Nat)}{p p':List (Option V)×List (Str×V)}(h:CR names ix (x,v) p=some p'):
  (names.lookup x=some .local/\p'=(p.1,putA x v p.2))\/(names.lookup x=some .cell/\∃ i w,ix.lookup x=some i/\p.1[i]? =some w/\p'=(p.1.set i (some v),p.2)):=by
 by_cases h1:names.lookup x=some .local
 ·exact .inl ⟨h1,(Option.some.inj ((aN h1).symm.trans h)).symm⟩
 ·obtain x12|i|hi|h:=bX.mp ((aJ h1).symm.trans h);obtain x02|h2|hi:=LS hi;obtain x12|w|h3|h:=bX.mp h;exact .inr ⟨h2,i,w,hi,h3,(Option.some.inj h).symm⟩
theorem W.WU{P:Prg}{J:Ev}{ix:List (Str×Nat)}{H:List O}(hx:J.cells=ix.map (upIx H.length)){r:List (Str×V)}{p p':List (Option V)×List (Str×V)}(h:CR J.scope.names ix (x,v) p=some p'){Q:Unit->S->Prop}(q:W P (λZ=>CB J r) Q E ⟨H++p'.1.map O.cell,p'.2⟩):W P (λZ=>CB J ((x,v)::r)) Q E ⟨H++p.1.map O.cell,p.2⟩:=by
 rcases PO h with ⟨h1,e⟩ | ⟨h1,i,w,hi,h3,e⟩
 ·subst e;exact W.TT h1 q
 ·subst e;refine W.MM (w:=w) (n:=H.length+i) h1 (by rw [hx,KQ,hi];rfl) (by rw [cX (bM ..),eQ,bS,h3];rfl) ?_;rw [List.set_append_right _ _ (bM ..),eQ,<-List.map_set];exact q
theorem W.LU{P:Prg}{J:Ev}{ix:List (Str×Nat)}{H:List O}(hx:J.cells=ix.map (upIx H.length)){Q:Unit->S->Prop}{p':List (Option V)×List (Str×V)}(q:Q () ⟨H++p'.1.map O.cell,p'.2⟩):∀ {bs:List (Str×V)} {p:List (Option V)×List (Str×V)},mW J.scope.names ix bs p=some p'->W P (λZ=>CB J bs) Q E ⟨H++p.1.map O.cell,p.2⟩:=by
 intro bs
 induction bs with
 | nil=>intro _ h;cases h;exact W.LM q
 | cons z0 r ih=>
  intro p h;obtain ⟨x,v⟩:=z0;obtain x12|p1|h1|h2:=bX.mp h;exact W.WU hx h1 (ih h2)
theorem W.fnE{c:Value}{dd:Option Addr}{sl:Array (Option Value)}{fd:FuncData}{body:List Stmt}{args:List V}{sc:Scope}{lq:Option (Addr×Addr×Str)}{cs:List (Option V)}{l:List (Str×V)}(hp:P.pM a args=none)
  (h:∀ (m:Nat) (h1:List O),s.h.length=m->Pre s.h h1->(∀ i v,cs[i]? =some v->h1[m+i]? =some (.cell v))->let P':=P;let J'j:Ev:={scope:=sc,cells:=(LE sc.names 0 []).map (upIx m),d,lq:=lq,stm:=true};let Q':=kJ s.l Q;let E':=kV s.l E;let L':=l;W P' (λF=>tB P'.K F body J'j) Q' E' {h:=h1,l:=L'})
  (hK:autoParam (P.K.lookup a=some ⟨c,dd,.func fd,sl⟩) aR) (hb:autoParam (fd.body= .stmts body) aR) (hf:autoParam (JC P.K fd args=some vs) aR) (hok:autoParam (fdOk P.K fd=true) aR)
  (hs:autoParam (fd.scope=sc) aR) (hq:autoParam (lqOf P.cs fd=lq) aR) (hbs:autoParam (mW sc.names (LE sc.names 0 []) ((fd.params.args.map (·.arg)).zip vs) (yJ sc.names,[])=some (cs,l)) aR):
  W P (λF=>F.call (.glob a) args (d+1)) Q E s:=by
 subst hs;have h:=h s.h.length (s.h++cs.map O.cell) rfl (Pre.app _ _) λi o e=>by rw [cX (bM ..),eQ,bS,e];rfl
 refine W.fnK hp hK hb hf hok rfl hq rfl (IP _ _ _ _) ?_;dsimp only at h ⊢;rw [show s.h.length=s.h.length+0 from rfl,show ([]:List (Str×Nat))= [].map (upIx s.h.length) from rfl,HP];exact W.LU (H:=s.h) (p:=(yJ fd.scope.names,[])) rfl h hbs
end
end
section
section
variable {P:Prg} {s:S} {J:Ev}
theorem W.lo(hv:s.l.lookup x=some v)(q:Q v s)(hx:autoParam (J.scope.names.lookup x=some .local) aR)(hd:autoParam (x≠"__debug__") aD):W P (λF=>F.ev (.Name x p) J) Q E s:=W.local hx hd hv q
theorem W.cI(hv:s.h[n]? =some (.cell (some v)))(q:Q v s)(hx:autoParam (J.scope.names.lookup x=some .cell) aR)(hn:autoParam (J.cells.lookup x=some n) aR)(hd:autoParam (x≠"__debug__") aD)(hc:autoParam (x≠"__classdict__") aD):W P (λF=>F.ev (.Name x p) J) Q E s:=W.UO (.inl hx) hd hc hn hv q
theorem W.cF(hv:s.h[n]? =some (.cell (some v)))(q:Q v s)(hx:autoParam (J.scope.names.lookup x=some .free) aR)(hn:autoParam (J.cells.lookup x=some n) aR)(hd:autoParam (x≠"__debug__") aD)(hc:autoParam (x≠"__classdict__") aD):W P (λF=>F.ev (.Name x p) J) Q E s:=W.UO (.inr hx) hd hc hn hv q
theorem W.gl(hv:HB P.K x=some v)(q:Q v s)(hx:autoParam (J.scope.names.lookup x=some .globalImplicit) aR)(hd:autoParam (x≠"__debug__") aD):W P (λF=>F.ev (.Name x p) J) Q E s:=W.glob hx hd hv q
theorem W.cG{p1:Pos}{args:List Expr}{fv:V}(hv:HB P.K x=some fv)(h:WL P J E args (kG P J E Q fv) s)(hx:autoParam (J.scope.names.lookup x=some .globalImplicit) aR)(hd:autoParam (x≠"__debug__") aD)(hl:autoParam (decide (args.length < 20)=true) aR)(hn:autoParam (args.all WA=true) aR):W P (λF=>F.ev (.Call (.Name x p1) args [] p) J) Q E s:=
 W.TO rfl hl hn (W.glob hx hd hv h)
theorem W.it{o i:Expr}(h:W P (λF=>F.ev o J) (k2 P J E i GJ Q) E s)(hi:autoParam (vC i=none) aR):W P (λF=>F.ev (.Subscript o i p) J) Q E s:=W.mK hi h
theorem W.aI{o i:Expr}{Q:Unit->S->Prop}(h:W P (λF=>F.ev o J) (k2 P J E i (sD · · v) Q) E s)(hi:autoParam (vC i=none) aR):W P (λF=>sB P.K F (.Subscript o i p) J v) Q E s:=W.asI hi h
theorem W.a1{x:Expr}{xs:List Expr}{Q:Unit->S->Prop}(h:W P (λF=>sB P.K F x J v) (kA1 P J E xs vs Q) E s)(hx:autoParam (vD x=none) aR):W P (λF=>CC P.K F (x::xs) J (v::vs)) Q E s:=W.as1 hx h
theorem W.sA{t x:Expr}{Q:Flow->S->Prop}(h:W P (λF=>F.ev x J) (kAs P J E t Q) E s)(hn:autoParam (LH x=true) aR)(hs:autoParam (TI [t] x J=some none) aR):W P (λF=>RB P.K F (.Assign [t] x p) J) Q E s:=W.pP hn hs h
theorem W.f{c:Value}{dd:Option Addr}{sl:Array (Option Value)}{fd:FuncData}{body:List Stmt}{args:List V}{l:List (Str×V)}{sc:Scope}{lq:Option (Addr×Addr×Str)}(hp:P.pM a args=none)
  (h:let P':=P;let J'j:Ev:={scope:=sc,cells:= [],d,lq:=lq,stm:=true};let Q':=kJ s.l Q;let E':=kV s.l E;let L':=l;W P' (λF=>tB P'.K F body J'j) Q' E' {h:=s.h,l:=L'})
  (hK:autoParam (P.K.lookup a=some ⟨c,dd,.func fd,sl⟩) aR) (hb:autoParam (fd.body= .stmts body) aR) (hf:autoParam (JC P.K fd args=some vs) aR) (hok:autoParam (fdOk P.K fd=true) aR)
  (hs:autoParam (fd.scope=sc) aR) (hq:autoParam (lqOf P.cs fd=lq) aR) (hc:∀ s:S,LB sc.names [] s=some (.ok [],s):=by intro _;rfl) (hl:∀ h,CB {scope:=sc,cells:= [],d,lq:=lq,stm:=true} ((fd.params.args.map (·.arg)).zip vs) {h:=h,l:= []}=some (.ok (),{h:=h,l:=l}):=by intro _;rfl):
  W P (λF=>F.call (.glob a) args (d+1)) Q E s:=W.fn hp hK hb hf hok hs hq hc hl h
end
end
section
section
variable {P:Prg} {J:Ev} {s:S} {r:List Expr} {Q:List V->S->Prop}
theorem W.la(hv:s.l.lookup x=some v)(q:WL P J E r (kC v Q) s)(hx:autoParam (J.scope.names.lookup x=some .local) aR)(hd:autoParam (x≠"__debug__") aD):WL P J E (.Name x p::r) Q s:=W.local hx hd hv q
theorem W.lk{c:Const}(h:uD c=some v)(q:WL P J E r (kC v Q) s):WL P J E (.Constant c k p::r) Q s:=W.iA h q
theorem W.li(hv:s.h[n]? =some (.cell (some v)))(q:WL P J E r (kC v Q) s)(hx:autoParam (J.scope.names.lookup x=some .cell) aR)(hn:autoParam (J.cells.lookup x=some n) aR)(hd:autoParam (x≠"__debug__") aD)(hc:autoParam (x≠"__classdict__") aD):WL P J E (.Name x p::r) Q s:=W.cI hv q hx hn hd hc
theorem W.lf(hv:s.h[n]? =some (.cell (some v)))(q:WL P J E r (kC v Q) s)(hx:autoParam (J.scope.names.lookup x=some .free) aR)(hn:autoParam (J.cells.lookup x=some n) aR)(hd:autoParam (x≠"__debug__") aD)(hc:autoParam (x≠"__classdict__") aD):WL P J E (.Name x p::r) Q s:=W.cF hv q hx hn hd hc
end
section
variable {P:Prg} {J:Ev} {s:S} {Q:V->S->Prop}
theorem W.en{f:V}(h:tC P.K f s=some (.ok (),s))(q:W P (λF=>F.call f vs J.d) Q E s):kG P J E Q f vs s:=⟨h,q⟩
theorem W.em{f:V×List V}(h:tC P.K f.1 s=some (.ok (),s))(q:W P (λF=>F.call f.1 (f.2++vs) J.d) Q E s):kH P J E Q f vs s:=⟨h,q⟩
end
end
theorem NS{base h:Heap}{p:Program}{loose:List Str}{nY:ExcName->Option Value}{mg mb m:Str->Option Value}{pM:Addr->List V->Option V}{cs:List (Addr×Addr×Str)}
  {A:Around} {env:Env} {D:Addr} {os0:List (Addr×Obj)} {ws:List Value} {ns:List Int} {news:List (Addr×Obj)} {body:List Stmt} {J:Ev} {os:OsState} {drawn:Drawn} {gens:Array GenState} {tk:Tok} {x:Str}
  {Q:PySem.Flow->Shared->Prop} {E:Value->Shared->Prop}
  (P:wI prog ⟨w,base,cs,os⟩ pM) (X:K.In base) (T:Top p loose nY mg mb base) (F:Fr base env.locals h m) (N:News base env.locals h news)
  (hcs:∀ q∈cs,CodeHd base q.1 q.2.1) (one:∀ p∈cs,∀ q∈cs,p.2.1=q.2.1->p=q) (htab:∀ q∈cs,(q.2.1,tabObj #[])∈news) (htl:∀ q∈cs,q.2.1 < env.locals)
  (hD:(D,W.listOf ws.toArray 0)∈news) (hws:IntsAre ws ns) (hos:∀ q∈os0,q∈news/\q.2.data= .cell none) (hlt:∀ q∈os0,env.locals < q.1) (hD2:env.locals < D) (nd:(D::os0.map (·.1)).Nodup)
  (hm:m x=some (.ref D)) (hsm:sysModules < env.locals) (hg:gens= #[])
  (hA:OkA ⟨⟨w,base,cs,os⟩,prog,A,env,[],[env]⟩ J.d) (hsc:env.scope=J.scope) (hk:J.scope.kind= .function) (hc:CellsR (D::os0.map (·.1)) J.cells env.cells) (hgl:env.globals=mainGlobals) (hbl:env.builtins=builtinsNs) (hfr:env.frame=some env.locals)
  (hlq:∀ q,J.lq=some q->env.code= .ref q.1/\env.qual++"<lambda>"=q.2.2/\q∈cs)
  (run:W ⟨K,pM,cs⟩ (λF=>tB K F body J) (λf Z=>f= .ret (.bool true)) (λZ Z=>False) ⟨.list (ns.map V.int)::os0.map (λZ=>O.cell none),[(x,.ref 0)]⟩)
  (hQ:∀ r:Shared,(∀ b o,base.get? b=some o->r.heap.get? b=some o)->r.gens= #[]->r.os=os->(∀ q∈cs,GrownAt q.2.1 r.heap)->Q (.ret (.bool true)) r):
  wpAny (model prog w) A (execs body env) Q E ⟨h,gens,drawn,tk,os⟩:=by
 have Wd0:Wd ⟨w,base,cs,os⟩ K:={X:=X,T:=i51 p loose nY mg mb T,codes:=hcs,one:=one};rcases run with ⟨f,s',hf,N0,hr⟩ | ⟨_,_,h1,_⟩
 ·have hr:tB K (fns K pM cs N0) body J ⟨.list (ns.map V.int)::os0.map (λZ=>O.cell none),[(x,.ref 0)]⟩=some (.ok f,s'):=hr N0 (aY _);subst hf;have fresh:base.get? env.locals=none:=by
   cases q:base.get? env.locals with
   | none=>rfl
   | some o=>exact aS (aT (cP q) F.above) (dO _)
  have So:=wX (prog:=prog) (G:=⟨w,base,cs,os⟩) Wd0 P (N0+1);have ER:EvR ⟨⟨w,base,cs,os⟩,prog,A,env,[],[env]⟩ (D::os0.map (·.1)) J:={a:=hA,scope:=hsc,kind:=hk,cells:=hc,glob:=hgl,blt:=hbl,head:=λZ=>i22 [] env.locals rfl hfr,lq:=hlq};have st:St ⟨w,base,cs,os⟩ env.locals [] (D::os0.map (·.1)) ⟨.list (ns.map V.int)::os0.map (λZ=>O.cell none),[(x,.ref 0)]⟩ ⟨h,gens,drawn,tk,os⟩:=by
   refine {base:=F.keep,ns:=i12 m F.ns ?_,kept:=(λZ hq=>by cases hq),low:=⟨hsm,?_⟩,len:=by simp,objs:=?_,inj:=?_,fresh:=⟨fresh,(λZ hq=>by cases hq)⟩,more:=?_,gens:=hg,os:=rfl}
   ·intro y v e;rw [bQ] at e;split at e
    ·rename_i hy;cases e;have:y=x:=by simpa using hy
     subst this;exact i12 _ hm ⟨D,rfl,rfl⟩
    ·cases e
   ·intro n a e z;subst z;have hmem:=cT e;rcases aZ.mp hmem with hmem | hmem
    ·rw [<-hmem] at hD2;exact aS hsm (cB.mpr (cC hD2))
    ·obtain x12|q|hq|e2:=aL.mp hmem;have:=hlt q hq;rw [e2] at this;exact aS hsm (cB.mpr (cC this))
   ·intro n o a e hd ea
    induction n using nCq with
    | zero=>
     simp only [List.getElem?_cons_zero,Option.some.injEq] at e ea;subst e ea;obtain x03|n1|n2|n3:=N _ hD;exact i04 (i12 _ n1 ⟨i03 rfl rfl rfl,ws,0,rfl,AQ hws⟩) (Ne.symm (bG hD2)) (λZ hq=>by cases hq) n3
    | succ n=>
     simp only [List.getElem?_cons_succ,List.getElem?_map] at e ea;cases eq:os0[n]? with
     | none=>rw [eq] at e;cases e
     | some q=>
      rw [eq] at e ea;cases e;cases ea;have hq:=cT eq;obtain x03|n1|n2|n3:=N _ (hos q hq).1;exact i04 (i12 _ n1 ⟨none,(hos q hq).2,trivial⟩) n2 (λZ hq=>by cases hq) n3
   ·intro n k a _ _ e1 e2;exact (List.getElem?_inj (aQ.mp e1).1 nd).mp (e1.trans e2.symm)
   ·refine i13 (cs.map λq=>(q.2.1,tabObj #[])) ?_ ?_ ?_
    ·intro q hq;exact i13 (#[]) (aL.mpr (i12 q hq rfl)) trivial λpos cv e=>by simp [codeAmong] at e
    ·intro z hz;obtain x12|q|hq|rfl:=aL.mp hz;obtain x03|n1|n2|n3:=N _ (htab q hq);refine i05 n1 n2 (λZ hq=>by cases hq) n3 λn Z e=>?_;have Dh:=htl q hq;have hmem:=cT e;rcases aZ.mp hmem with hmem | hmem
     ·dsimp only at hmem;rw [hmem] at Dh;exact aS hD2 (cB.mpr (cC Dh))
     ·obtain x12|q2|hq2|e2:=aL.mp hmem;have:=hlt q2 hq2;dsimp only at e2;rw [e2] at this;exact aS Dh (cB.mpr (cC this))
    ·intro n b sc ce a ob e;exfalso
     induction n using nCq with
     | zero=>simp at e
     | succ n=>
      simp only [List.getElem?_cons_succ,List.getElem?_map] at e;cases eq:os0[n]? with
      | none=>rw [eq] at e;cases e
      | some q=>rw [eq] at e;cases e
  refine fG ((So.exs _ J (D::os0.map (·.1)) body rfl rfl ER).run _ _ _ Q (λZ Z=>False) (Ext.refl _) st PassesOwn.never (λz=>by have z2:=hr.symm.trans z;cases z2) (λa s'' e Y' b r' Z st' hR=>?_) (λc s'' e=>?_)) (λZ Z h=>h) λZ Z h=>h.elim
  ·have e2:tB K (fns K pM cs N0) body J ⟨.list (ns.map V.int)::os0.map (λZ=>O.cell none),[(x,.ref 0)]⟩=some (.ok a,s''):=e;have hr2:tB K (fns K pM cs N0) body J ⟨.list (ns.map V.int)::os0.map (λZ=>O.cell none),[(x,.ref 0)]⟩=some (.ok (.ret (.bool true)),s'):=hr;rw [hr2] at e2;cases e2;cases hR with
   | ret hv=>
    cases hv;obtain x13|xs|tb|hx|u_:=st'.more;refine hQ r' st'.base st'.gens st'.os λq hq=>?_;obtain x12|ps|hp|u_:=tb q hq;exact ⟨ps,(hx _ hp).1⟩
  ·have e2:tB K (fns K pM cs N0) body J ⟨.list (ns.map V.int)::os0.map (λZ=>O.cell none),[(x,.ref 0)]⟩=some (.exc c,s''):=e;have hr2:tB K (fns K pM cs N0) body J ⟨.list (ns.map V.int)::os0.map (λZ=>O.cell none),[(x,.ref 0)]⟩=some (.ok (.ret (.bool true)),s'):=hr;rw [hr2] at e2;cases e2
 ·exact h1.elim
section
variable (pM:Addr->List V->Option V) (cs:List (Addr×Addr×Str))
noncomputable abbrev pw(w:World):Prg:=⟨Internal.kx.heap_1 w.params,pM,cs⟩
variable {pM cs}
theorem nG:ZN (Internal.kx.heap_1 w.params) 226 "last"=true:=by rfl
theorem oD:ZN (Internal.kx.heap_1 w.params) 226 "notes"=true:=by rfl
theorem oG:ZN (Internal.kx.heap_1 w.params) 226 "zaps"=true:=by rfl
noncomputable abbrev ownD(hY:Int)(N Zq:Nat):List (V×V):= [(.str "last",.int hY),(.str "notes",.ref N),(.str "zaps",.ref Zq)]
structure Base(s:S)(b bd N Zq:Nat)(hY:Int)(hZ zaps:List (V×V)):Prop where
 inst:s.h[b]? =some (.inst 226 bd)
 own:∃ k,s.h[bd]? =some (.dict (ownD hY N Zq) k)
 nts:∃ k,s.h[N]? =some (.dict hZ k)
 zps:∃ k,s.h[Zq]? =some (.dict zaps k)
 nk:yB hZ=true/\hZ.length<=900
 zk:yB zaps=true/\zaps.length<=900
 ne:bd≠N/\bd≠Zq/\N≠Zq
theorem VB(h:yB es=true)(i:Int):(wD (.int i) && uA (.int i) es)=true:=by
 unfold yB at h;unfold uA;rw [show wD (.int i)=true from rfl,Bool.true_and];rw [eB] at h ⊢;intro e he;have:=h e he;obtain ⟨k,v⟩:=e
 induction k <;> first | rfl | cases this
theorem vU{b bd N Zq:Nat}{hY p:Int}{hZ zaps:List (V×V)}(hp:∀ a,pM 160 a=none)(B:Base ⟨H0,L0⟩ b bd N Zq hY hZ zaps)(hx:IA (.int p) hZ=some v)(q:Q v ⟨H0,L0⟩):
  W (pw pM cs w) (λF=>F.call (.glob 160) [.ref b,.int p] (d+1)) Q E ⟨H0,L0⟩:=by
 obtain x11|k1|own:=B.own;obtain x11|k2|nts:=B.nts;refine W.f (P:=pw pM cs w) (hp _) ?_;intro P J J' E' L';refine W.stC (W.sIf (W.xA rfl (W.lo rfl (W.LA rfl (W.lo rfl (W.rA B.inst own oD rfl rfl (W.lJ nts (VB B.nk.1 p) ?_)))))));rw [hx];refine W.stN ?_;refine W.stC (W.pA (W.it (W.LA rfl (W.lo rfl (W.rA B.inst own oD rfl rfl (W.lo rfl (W.WI nts (VB B.nk.1 p) hx q)))))))
theorem MQ:qD (Internal.kx.heap_1 w.params) 226 "note" 160=true:=by rfl
theorem PJ:qD (Internal.kx.heap_1 w.params) 226 "rows" 195=true:=by rfl
theorem tG:qD (Internal.kx.heap_1 w.params) 226 "new_zap" 188=true:=by rfl
theorem BN{b bd N Zq:Nat}{hY p:Int}{hZ zaps:List (V×V)}(hp:∀ a,pM 195 a=none)(B:Base ⟨H0,L0⟩ b bd N Zq hY hZ zaps)(hx:IA (.int p) zaps=some v)(q:Q v ⟨H0,L0⟩):
  W (pw pM cs w) (λF=>F.call (.glob 195) [.ref b,.int p] (d+1)) Q E ⟨H0,L0⟩:=by
 obtain x11|k1|own:=B.own;obtain x11|k2|zps:=B.zps;refine W.f (P:=pw pM cs w) (hp _) ?_;intro P J J' E' L';refine W.stC (W.sIf (W.xA rfl (W.lo rfl (W.LA rfl (W.lo rfl (W.rA B.inst own oG rfl rfl (W.lJ zps (VB B.zk.1 p) ?_)))))));rw [hx];refine W.stN ?_;refine W.stC (W.pA (W.it (W.LA rfl (W.lo rfl (W.rA B.inst own oG rfl rfl (W.lo rfl (W.WI zps (VB B.zk.1 p) hx q)))))))
theorem EO{b bd N Zq:Nat}{hY p:Int}{hZ zaps:List (V×V)}{x:Array UInt8}(hp:∀ a,pM 160 a=none)(Am:∀ a,pM 167 a=none)(B:Base ⟨H0,L0⟩ b bd N Zq hY hZ zaps)(hx:IA (.int p) hZ=some v)
  (q:∀ k,H0[N]? =some (.dict hZ k)->Q .none {(⟨H0,L0⟩:S) with h:=H0.set N (KX (.int p) (.bytes x) hZ k)}):
  W (pw pM cs w) (λF=>F.call (.glob 167) [.ref b,.int p,.bytes x] (d+2)) Q E ⟨H0,L0⟩:=by
 obtain x11|k1|own:=B.own;obtain x11|k2|nts:=B.nts;refine W.f (P:=pw pM cs w) (Am _) ?_;intro P J J' E' L';refine W.stC (W.iB rfl (W.KA rfl rfl rfl (W.lo rfl (W.YA B.inst own MQ rfl rfl (W.la rfl (W.em (by rfl) ?_))))));refine vU hp ⟨B.inst,⟨k1,own⟩,⟨k2,nts⟩,B.zps,B.nk,B.zk,B.ne⟩ hx ?_;refine W.stC (W.sA (W.cG (by rfl) (W.la rfl (W.en rfl (W.ty (W.jA (λZ=>rfl) ?_))))));refine W.aI (W.LA rfl (W.lo rfl (W.rA B.inst own oD rfl rfl (W.lo rfl (W.oK nts ?_ ?_)))))
 ·rw [VB B.nk.1 p];simpa using B.nk.2
 ·exact W.stN (q k2 nts)
theorem HS{b bd N Zq z:Nat}{hY p:Int}{name:Str}{hZ zaps:List (V×V)}(hp:∀ a,pM 195 a=none)(Am:∀ a,pM 202 a=none)(B:Base ⟨H0,L0⟩ b bd N Zq hY hZ zaps)(hx:IA (.int p) zaps=some (.ref z))(hz:H0[z]? =some (.dict es k))(hl:uA (.str name) es=true)
  (q:Q ((IA (.str name) es).getD .none) ⟨H0,L0⟩):
  W (pw pM cs w) (λF=>F.call (.glob 202) [.ref b,.int p,.str name] (d+2)) Q E ⟨H0,L0⟩:=by
 obtain x11|k1|own:=B.own;refine W.f (P:=pw pM cs w) (Am _) ?_;intro P J J' E' L';refine W.stC (W.pA (W.KA rfl rfl rfl (W.KA rfl rfl rfl (W.lo rfl (W.YA B.inst own PJ rfl rfl (W.la rfl (W.em (by rfl) ?_)))))));refine BN hp ⟨B.inst,⟨k1,own⟩,B.nts,B.zps,B.nk,B.zk,B.ne⟩ hx ?_;exact W.VV hz (W.la rfl (W.en rfl (W.bi (W.UV hz (by rw [hl];rfl) q))))
theorem PW{b bd N Zq z:Nat}{hY p n:Int}{name:Str}{hZ zaps:List (V×V)}(hp:∀ a,pM 195 a=none)(Am:∀ a,pM 209 a=none)(B:Base ⟨H0,L0⟩ b bd N Zq hY hZ zaps)(hx:IA (.int p) zaps=some (.ref z))(hz:H0[z]? =some (.dict es k))(hl:uA (.str name) es=true)(hl2:es.length<=900)
  (hn:0<=n/\n < 2 ^ 64) (q:Q .none {(⟨H0,L0⟩:S) with h:=H0.set z (KX (.str name) (.int n) es k)}):
  W (pw pM cs w) (λF=>F.call (.glob 209) [.ref b,.int p,.str name,.int n] (d+2)) Q E ⟨H0,L0⟩:=by
 obtain x11|k1|own:=B.own;refine W.f (P:=pw pM cs w) (Am _) ?_;intro P J J' E' L';refine W.stC (W.sIf (W.RC (W.mJ rfl (W.iA rfl (W.lo rfl (W.jA (λZ=>rfl) ?_))))));rw [aF hn.1,aN rfl];refine W.GA (W.iA rfl (W.iA rfl (W.jA (λZ=>rfl) (W.jA (λZ=>rfl) ?_))));have:decide (n < (2:Int) ^ Int.toNat 64)=true:=aF hn.2;rw [this];refine W.stN ?_;refine W.stC (W.sA (W.lo rfl ?_));refine W.aI (W.KA rfl rfl rfl (W.lo rfl (W.YA B.inst own PJ rfl rfl (W.la rfl (W.em (by rfl) ?_)))));refine BN hp ⟨B.inst,⟨k1,own⟩,B.nts,B.zps,B.nk,B.zk,B.ne⟩ hx ?_;refine W.lo rfl (W.oK hz ?_ ?_)
 ·rw [hl];exact aF hl2
 ·exact W.stN q
theorem nM{b bd N Zq z:Nat}{hY p:Int}{hZ zaps:List (V×V)}(hp:∀ a,pM 195 a=none)(Am:∀ a,pM 223 a=none)(B:Base ⟨H0,L0⟩ b bd N Zq hY hZ zaps)(hx:IA (.int p) zaps=some (.ref z))(hz:H0[z]? =some (.dict es k))(hl2:es.length < 64)
  (hv:xD (es.map (·.1))=some vs) (q:Q (.ref H0.length) {(⟨H0,L0⟩:S) with h:=H0++ [.list vs]}):
  W (pw pM cs w) (λF=>F.call (.glob 223) [.ref b,.int p] (d+2)) Q E ⟨H0,L0⟩:=by
 obtain x11|k1|own:=B.own;refine W.f (P:=pw pM cs w) (Am _) ?_;intro P J J' E' L';refine W.stC (W.pA (W.cG (by rfl) (W.KA rfl rfl rfl (W.lo rfl (W.YA B.inst own PJ rfl rfl (W.la rfl (W.em (by rfl) ?_)))))));refine BN hp ⟨B.inst,⟨k1,own⟩,B.nts,B.zps,B.nk,B.zk,B.ne⟩ hx ⟨rfl,W.bi (W.pK hz (by simpa using hl2) hv q)⟩
theorem yM:xM (Internal.kx.heap_1 w.params) 226 "last"=true:=by rfl
theorem TW{b bd N Zq z:Nat}{hY p:Int}{name:Str}{hZ zaps:List (V×V)}(hp:∀ a,pM 195 a=none)(Am:∀ a,pM 216 a=none)(B:Base ⟨H0,L0⟩ b bd N Zq hY hZ zaps)(hx:IA (.int p) zaps=some (.ref z))(hz:H0[z]? =some (.dict es k))(hl:uA (.str name) es=true)(hl2:es.length<=900)
  (hv:IA (.str name) es=some v) (q:Q v {(⟨H0,L0⟩:S) with h:=H0.set z (.dict (zB (.str name) es) (k+1))}):
  W (pw pM cs w) (λF=>F.call (.glob 216) [.ref b,.int p,.str name] (d+2)) Q E ⟨H0,L0⟩:=by
 obtain x11|k1|own:=B.own;refine W.f (P:=pw pM cs w) (Am _) ?_;intro P J J' E' L';refine W.stC (W.sA (W.KA rfl rfl rfl (W.lo rfl (W.YA B.inst own PJ rfl rfl (W.la rfl (W.em (by rfl) ?_))))));refine BN hp ⟨B.inst,⟨k1,own⟩,B.nts,B.zps,B.nk,B.zk,B.ne⟩ hx ?_;refine W.asN rfl ?_;refine W.stC (W.sIf (W.xA rfl (W.lo rfl (W.lo rfl (W.lJ hz (by rw [hl];rfl) ?_)))));rw [hv];refine W.stN ?_;refine W.stC (W.pA (W.KA rfl rfl rfl (W.lo rfl (W.YO hz (W.la rfl (W.en rfl (W.bi (W.UT hz ?_ hv q))))))));rw [hl];exact aF hl2
theorem jO{b bd N Zq:Nat}{hY p:Int}{hZ zaps:List (V×V)}(Am:∀ a,pM 146 a=none)(B:Base ⟨H0,L0⟩ b bd N Zq hY hZ zaps)
  (q:Q (.bool ((IA (.int p) hZ).isSome || (IA (.int p) zaps).isSome)) ⟨H0,L0⟩):
  W (pw pM cs w) (λF=>F.call (.glob 146) [.ref b,.int p] (d+1)) Q E ⟨H0,L0⟩:=by
 obtain x11|k1|own:=B.own;obtain x11|k2|nts:=B.nts;obtain x11|k3|zps:=B.zps;refine W.f (P:=pw pM cs w) (Am _) ?_;intro P J J' E' L';refine W.stC (W.pA (W.or ?_));refine W.UD rfl (W.lo rfl (W.LA rfl (W.lo rfl (W.rA B.inst own oD rfl rfl (W.inD nts (VB B.nk.1 p) ?_)))));refine W.pure ?_;cases hn:(IA (.int p) hZ).isSome with
 | true=>rw [hn] at q;exact q
 | false=>
  rw [hn] at q;exact W.UD rfl (W.lo rfl (W.LA rfl (W.lo rfl (W.rA B.inst own oG rfl rfl (W.inD zps (VB B.zk.1 p) q)))))
theorem zE{hY:Int}{N Zq:Nat}:(IA (.str "last") (ownD hY N Zq)).bind wQ=some (.int hY):=by rfl
theorem nR{hY l2:Int}{N Zq:Nat}:KX (.str "last") (.int l2) (ownD hY N Zq) k= .dict (ownD l2 N Zq) k:=by rfl
theorem tO{b bd N Zq:Nat}{hY:Int}{hZ zaps:List (V×V)}{x:Array UInt8}(Am:∀ a,pM 153 a=none)(B:Base ⟨H0,L0⟩ b bd N Zq hY hZ zaps)
  (q:∀ k1 k2,H0[bd]? =some (.dict (ownD hY N Zq) k1)->H0[N]? =some (.dict hZ k2)->Q (.int (hY+1)) {(⟨H0,L0⟩:S) with h:=(H0.set bd (.dict (ownD (hY+1) N Zq) k1)).set N (KX (.int (hY+1)) (.bytes x) hZ k2)}):
  W (pw pM cs w) (λF=>F.call (.glob 153) [.ref b,.bytes x] (d+1)) Q E ⟨H0,L0⟩:=by
 obtain x11|k1|own:=B.own;obtain x11|k2|nts:=B.nts;have hne:bd≠b:=λz=>by have:=B.inst;rw [<-z,own] at this;cases this
 refine W.f (P:=pw pM cs w) (Am _) ?_;intro P J J' E' L';refine W.stC (W.sA (W.GA (W.LA rfl (W.lo rfl (W.rA B.inst own nG rfl zE (W.iA rfl (W.jA (λZ=>rfl) ?_)))))));refine W.asA (W.lo rfl (W.QB B.inst own yM (by rfl) ?_));rw [nR];have i1:=qA (p:= .dict (ownD (hY+1) N Zq) k1) hne B.inst;have o1:=RA (p:= .dict (ownD (hY+1) N Zq) k1) own;have n1:=qA (p:= .dict (ownD (hY+1) N Zq) k1) B.ne.1 nts;have Cc:N≠b:=λz=>by have:=B.inst;rw [<-z,nts] at this;cases this
 have i2:=qA (p:=KX (.int (hY+1)) (.bytes x) hZ k2) Cc i1;have o2:=qA (p:=KX (.int (hY+1)) (.bytes x) hZ k2) (Ne.symm B.ne.1) o1;refine W.stC (W.sA (W.cG (by rfl) (W.la rfl (W.en rfl (W.ty (W.jA (λZ=>rfl) ?_))))));refine W.aI (W.LA rfl (W.lo rfl (W.rA i1 o1 oD rfl rfl (W.LA rfl (W.lo rfl (W.rA i1 o1 nG rfl zE (W.oK n1 ?_ ?_)))))))
 ·rw [VB B.nk.1];simpa using B.nk.2
 refine W.stC (W.pA (W.LA rfl (W.lo rfl (W.rA i2 o2 nG rfl zE (q k1 k2 own nts)))))
theorem MK{b bd N Zq:Nat}{hY:Int}{hZ zaps:List (V×V)}(Am:∀ a,pM 188 a=none)(B:Base ⟨H0,L0⟩ b bd N Zq hY hZ zaps)
  (q:∀ k1 k2,H0[bd]? =some (.dict (ownD hY N Zq) k1)->H0[Zq]? =some (.dict zaps k2)->Q (.int (hY+1)) {(⟨H0,L0⟩:S) with h:=(H0.set bd (.dict (ownD (hY+1) N Zq) k1)++ [O.dict [] 0]).set Zq (KX (.int (hY+1)) (.ref H0.length) zaps k2)}):
  W (pw pM cs w) (λF=>F.call (.glob 188) [.ref b] (d+1)) Q E ⟨H0,L0⟩:=by
 obtain x11|k1|own:=B.own;obtain x11|k2|zps:=B.zps;have hne:bd≠b:=λz=>by have:=B.inst;rw [<-z,own] at this;cases this
 refine W.f (P:=pw pM cs w) (Am _) ?_;intro P J J' E' L';refine W.stC (W.sA (W.GA (W.LA rfl (W.lo rfl (W.rA B.inst own nG rfl zE (W.iA rfl (W.jA (λZ=>rfl) ?_)))))));refine W.asA (W.lo rfl (W.QB B.inst own yM (by rfl) ?_));rw [nR];have Cc:Zq≠b:=λz=>by have:=B.inst;rw [<-z,zps] at this;cases this
 have i1:=lA (t:= [O.dict [] 0]) (qA (p:= .dict (ownD (hY+1) N Zq) k1) hne B.inst);have o1:=lA (t:= [O.dict [] 0]) (RA (p:= .dict (ownD (hY+1) N Zq) k1) own);have n1:=lA (t:= [O.dict [] 0]) (qA (p:= .dict (ownD (hY+1) N Zq) k1) B.ne.2.1 zps);refine W.stC (W.sA (W.uL ?_));have hlen:(H0.set bd (.dict (ownD (hY+1) N Zq) k1)).length=H0.length:=gR;try dsimp only
 rw [hlen];have i2:=qA (p:=KX (.int (hY+1)) (.ref H0.length) zaps k2) Cc i1;have o2:=qA (p:=KX (.int (hY+1)) (.ref H0.length) zaps k2) (Ne.symm B.ne.2.1) o1;refine W.aI (W.LA rfl (W.lo rfl (W.rA i1 o1 oG rfl rfl (W.LA rfl (W.lo rfl (W.rA i1 o1 nG rfl zE (W.oK n1 ?_ ?_)))))))
 ·rw [VB B.zk.1];simpa using B.zk.2
 refine W.stC (W.pA (W.LA rfl (W.lo rfl (W.rA i2 o2 nG rfl zE (q k1 k2 own zps)))))
theorem IL{b bd N Zq:Nat}{hY p:Int}{hZ zaps:List (V×V)}(Am:∀ a,pM 181 a=none)(B:Base ⟨H0,L0⟩ b bd N Zq hY hZ zaps)(hv:IA (.int p) hZ=some v)
  (q:∀ k,H0[N]? =some (.dict hZ k)->Q .none {(⟨H0,L0⟩:S) with h:=H0.set N (.dict (zB (.int p) hZ) (k+1))}):
  W (pw pM cs w) (λF=>F.call (.glob 181) [.ref b,.int p] (d+1)) Q E ⟨H0,L0⟩:=by
 obtain x11|k1|own:=B.own;obtain x11|k2|nts:=B.nts;refine W.f (P:=pw pM cs w) (Am _) ?_;intro P J J' E' L';refine W.stC (W.sIf (W.xA rfl (W.lo rfl (W.LA rfl (W.lo rfl (W.rA B.inst own oD rfl rfl (W.inD nts (VB B.nk.1 p) ?_)))))));rw [hv];refine W.stC (W.nK (W.LA rfl (W.lo rfl (W.rA B.inst own oD rfl rfl (W.lo rfl (W.OT nts ?_ ?_))))))
 ·rw [VB B.nk.1,hv];simpa using B.nk.2
 exact W.stN (W.stN (q k2 nts))
theorem UN{b bd N Zq:Nat}{hY p:Int}{hZ zaps:List (V×V)}(Am:∀ a,pM 181 a=none)(B:Base ⟨H0,L0⟩ b bd N Zq hY hZ zaps)(hn:IA (.int p) hZ=none)(hv:IA (.int p) zaps=some v)
  (q:∀ k,H0[Zq]? =some (.dict zaps k)->Q .none {(⟨H0,L0⟩:S) with h:=H0.set Zq (.dict (zB (.int p) zaps) (k+1))}):
  W (pw pM cs w) (λF=>F.call (.glob 181) [.ref b,.int p] (d+1)) Q E ⟨H0,L0⟩:=by
 obtain x11|k1|own:=B.own;obtain x11|k2|nts:=B.nts;obtain x11|k3|zps:=B.zps;refine W.f (P:=pw pM cs w) (Am _) ?_;intro P J J' E' L';refine W.stC (W.sIf (W.xA rfl (W.lo rfl (W.LA rfl (W.lo rfl (W.rA B.inst own oD rfl rfl (W.inD nts (VB B.nk.1 p) ?_)))))));rw [hn];refine W.stC (W.sIf (W.xA rfl (W.lo rfl (W.LA rfl (W.lo rfl (W.rA B.inst own oG rfl rfl (W.inD zps (VB B.zk.1 p) ?_)))))));rw [hv];refine W.stC (W.nK (W.LA rfl (W.lo rfl (W.rA B.inst own oG rfl rfl (W.lo rfl (W.OT zps ?_ ?_))))))
 ·rw [VB B.zk.1,hv];simpa using B.zk.2
 exact W.stN (W.stN (W.stN (q k3 zps)))
theorem vV:findIn (Internal.kx.heap_1 w.params) (.ref 226) "__init__"=some (some (.ref 139)):=by rfl
theorem tT:xM (Internal.kx.heap_1 w.params) 226 "notes"=true:=by rfl
theorem DV:xM (Internal.kx.heap_1 w.params) 226 "zaps"=true:=by rfl
noncomputable def qM(n k1 k2:Nat):List O:= [.dict (ownD 1 (n+2) (n+3)) k1,.inst 226 n,.dict [] 0,.dict [(.int 1,.ref (n+4))] k2,.dict [] 0]
theorem kW(hp:pM 226 []=none)(Am:∀ a,pM 188 a=none)
  (q:∀ k1 k2,Q (.ref (H0.length+1)) {(⟨H0,L0⟩:S) with h:=H0++qM H0.length k1 k2}):
  W (pw pM cs w) (λF=>F.call (.glob 226) [] (d+3)) Q E ⟨H0,L0⟩:=by
 refine W.ST (P:=pw pM cs w) hp (hK:=by rfl) vV (hK2:=by rfl) (by rfl) ?_;refine W.fd (P:=pw pM cs w) (hb:=rfl) (hf:=rfl) (hok:=by rfl) (hs:=rfl) (hq:=rfl) (hc:=λZ=>rfl) (hl:=λZ=>rfl) ?_;dsimp only;refine genE (H0.length) ?_;intro n hn;have a0:(H0++ [O.dict [] 0]++ [.inst 226 n])[n]? =some (.dict [] 0):=by subst hn;exact lA oA
 have b0:(H0++ [O.dict [] 0]++ [.inst 226 n])[n+1]? =some (.inst 226 n):=by subst hn;exact rN
 refine W.stC (W.sA (W.iA rfl (W.asA (W.lo rfl (W.QB b0 a0 yM (by rfl) ?_)))));refine W.heap (h':=H0++ [.dict [(.str "last",.int 0)] 1,.inst 226 n]) (by subst hn;simp [show KX (.str "last") (.int 0) [] 0= .dict [(.str "last",.int 0)] 1 from rfl]) ?_;refine W.stC (W.sA (W.uL ?_));refine W.asA (W.lo rfl (W.QB (C:=226) (d:=n) (es:= [(.str "last",.int 0)]) (k:=1) (by subst hn;exact lA (gx (k:=1) rfl)) (by subst hn;exact lA (gx (k:=0) rfl)) tT (by rfl) ?_));refine W.heap (h':=H0++ [.dict [(.str "last",.int 0),(.str "notes",.ref (n+2))] 2,.inst 226 n,.dict [] 0]) (by
  dsimp only;rw [show KX (.str "notes") (.ref (H0++ [O.dict [(.str "last",.int 0)] 1,.inst 226 n]).length) [(.str "last",.int 0)] 1=O.dict [(.str "last",.int 0),(.str "notes",.ref (H0++ [O.dict [(.str "last",.int 0)] 1,.inst 226 n]).length)] 2 from rfl];subst hn;simp) ?_
 refine W.stC (W.sA (W.uL ?_));refine W.asA (W.lo rfl (W.QB (C:=226) (d:=n) (es:= [(.str "last",.int 0),(.str "notes",.ref (n+2))]) (k:=2) (by subst hn;exact lA (gx (k:=1) rfl)) (by subst hn;exact lA (gx (k:=0) rfl)) DV (by rfl) ?_));refine W.heap (h':=H0++ [.dict (ownD 0 (n+2) (n+3)) 3,.inst 226 n,.dict [] 0,.dict [] 0]) (by
  dsimp only;refine genE ((H0++ [O.dict [(.str "last",.int 0),(.str "notes",.ref (n+2))] 2,.inst 226 n,.dict [] 0]).length) ?_;intro m hm;have hm:m=n+3:=by subst hn;rw [<-hm];exact bA
  rw [show KX (.str "zaps") (.ref m) [(.str "last",.int 0),(.str "notes",.ref (n+2))] 2=O.dict [(.str "last",.int 0),(.str "notes",.ref (n+2)),(.str "zaps",.ref m)] 3 from rfl];subst hm hn;simp) ?_
 have B:Base {h:=H0++ [.dict (ownD 0 (n+2) (n+3)) 3,.inst 226 n,.dict [] 0,.dict [] 0],l:= [(Str.ofString "self",.ref (n+1))]} (n+1) n (n+2) (n+3) 0 [] []:=
  {inst:=by subst hn;exact gx (k:=1) rfl,own:=⟨3,by subst hn;exact gx (k:=0) rfl⟩,nts:=⟨0,by subst hn;exact gx (k:=2) rfl⟩,zps:=⟨0,by subst hn;exact gx (k:=3) rfl⟩,nk:=⟨rfl,dA _⟩,zk:=⟨rfl,dA _⟩,ne:=i03 (bG (eP (by decide))) (bG (eP (by decide))) (bG (dR _))}
 refine W.stC (W.iB rfl (W.KA rfl rfl rfl (W.lo rfl (W.YA (C:=226) (d:=n) (es:=ownD 0 (n+2) (n+3)) (k:=3) B.inst (by subst hn;exact gx (k:=0) rfl) tG rfl rfl ⟨by rfl,?_⟩))));refine MK Am B λk1 k2 e1 e2=>?_;refine W.stN ⟨rfl,?_⟩;have key:∀ h',h'=H0++qM H0.length k1 (k2+1)->Q (.ref (H0.length+1)) {h:=h',l:=L0}:=λh' e=>e▸q k1 (k2+1);subst hn;refine key _ ?_;have e3:KX (.int (0+1)) (.ref (H0++ [O.dict (ownD 0 (H0.length+2) (H0.length+3)) 3,.inst 226 H0.length,.dict [] 0,.dict [] 0]).length) [] k2=O.dict [(.int 1,.ref (H0.length+4))] (k2+1):=by
  rw [bA];rfl
 dsimp only;rw [e3];simp [qM]
end
section
noncomputable def OK:List UInt8->Nat
 | []=>0
 | b::r=>b.toNat+256*OK r
noncomputable def octs:Nat->Nat->List UInt8
 | 0,_=> []
 | k+1,n=>UInt8.ofNat (n % 256)::octs k (n / 256)
noncomputable def pr0(_:Addr)(_:List V):Option V:=none
theorem zN(_:a≠235)(_:a≠240)(vs:List V):pr0 a vs=none:=rfl
theorem rD:∀ k n,(octs k n).length=k:=by
 intro k
 induction k with
 | zero=>intro _;exact rfl
 | succ k ih=>intro n;exact aU (· +1) (ih _)
theorem wO:∀ k n,n < 256 ^ k->OK (octs k n)=n:=by
 intro k
 induction k with
 | zero=>intro n h;exact (Nat.lt_one_iff.mp h).symm
 | succ k ih=>
  intro n h;have ih:=ih (n / 256) (by rw [Nat.pow_succ] at h;exact Nat.div_lt_of_lt_mul (by rw [Nat.mul_comm];exact h));have:(UInt8.ofNat (n % 256)).toNat=n % 256:=by simp
  show (UInt8.ofNat (n % 256)).toNat+256*OK (octs k (n / 256))=n;rw [ih,this];exact Nat.mod_add_div ..
theorem JV(c:Int):∀ l:List Int,(l.map λx=>c*x).sum=c*l.sum:=by
 intro l
 induction l with
 | nil=>simp
 | cons x r ih=>rw [bJ,gA,gA,ih,Int.mul_add]
theorem SQ:∀ l:List UInt8,((List.range l.length).map λj=>((l.getD j 0).toNat:Int)*2 ^ (8*j)).sum=(OK l:Int):=by
 intro l
 induction l with
 | nil=>exact rfl
 | cons b r ih=>
  have ih:=ih;rw [fN,List.range_succ_eq_map,bJ,gA,aP];have e:(List.range r.length).map ((λj=>(((b::r).getD j 0).toNat:Int)*2 ^ (8*j))∘Nat.succ)=((List.range r.length).map λj=>((r.getD j 0).toNat:Int)*2 ^ (8*j)).map λx=>256*x:=by
   rw [aP];refine bZ λj Z=>?_;simp only [Function.comp,List.getD_cons_succ];have:(2:Int) ^ (8*Nat.succ j)=256*2 ^ (8*j):=by
    rw [show 8*Nat.succ j=8*j+8 from rfl,Int.pow_add];rw [Int.mul_comm];rfl
   rw [this,<-Int.mul_assoc,<-Int.mul_assoc,Int.mul_comm _ 256]
  rw [e,JV,ih];simp [show ∀ b r,OK (b::r)=b.toNat+256*OK r from λ_ _=>rfl]
noncomputable def rowB(ns:List Int):Array UInt8:=Builtin.Bytes.joined #[] (ns.map λn=>(octs 8 n.toNat).toArray)
theorem AL(bs:List (Array UInt8)):sJ (bs.map V.bytes)=some bs:=qF (f:=asY) (g:=V.bytes) (λZ=>rfl) bs
theorem PL(l:List Int):NE (l.map V.int)=some l:=qF (f:=asI) (g:=V.int) (λZ=>rfl) l
theorem YB{s:S}(h:s.h[n]? =some (.tup vs)):QD (.ref n) s=some (.ok vs,s):=by
 show M.bind (CX n) _ s=_;unfold M.bind CX;rw [h];rfl
theorem QW{y:Str}{u:V}(h:y≠x):∀ {l:List (Str×V)},l.lookup y=some u->(putA x v l).lookup y=some u:=by
 intro l
 induction l with
 | nil=>intro e;cases e
 | cons z0 r ih=>
  intro e;obtain ⟨z,t⟩:=z0;rw [jR];rw [bQ] at e;by_cases hz:z=x
  ·rw [aN hz,bQ];have h2:(y==z)=false:=by rw [hz];simpa using h
   rw [h2] at e ⊢;exact e
  ·rw [aJ hz,bQ];cases q:(y==z) with
   | true=>rw [q] at e;exact e
   | false=>rw [q] at e;exact ih e
section
variable {P:Prg} {s:S} {J:Ev}
theorem W.MU{bs:List (Array UInt8)}(hn:s.h[n]? =some (.list (bs.map V.bytes)))(hz:decide (2<=bs.length/\b.size=0/\(bs.map (·.size)).sum<=100000)=true)(q:Q (.bytes (Builtin.Bytes.joined b bs)) s):W P (λZ=>lB "bytes.join" [.bytes b,.ref n]) Q E s:=
 W.bind (W.zA hn (W.pure (W.opt (AL bs) (W.AA hz (W.pure q)))))
theorem W.JR{Q:V×List V->S->Prop}(q:Q (.bi "bytes.join",[.bytes b]) s):W P (λZ=>WC P.K (.bytes b) "join") Q E s:=W.jA (λZ=>rfl) q
theorem W.sP{xs:List Int}(hn:s.h[n]? =some (.list (xs.map V.int)))(q:Q (.int xs.sum) s):W P (λZ=>lB "sum" [.ref n]) Q E s:=W.bind (W.zA hn (W.pure (W.opt (PL xs) (W.pure q))))
theorem W.KR{xs:List Int}(hn:s.h[n]? =some (.list (xs.map V.int)))(hz:xs.length<=1000)(hr:∀ x∈xs,0<=x/\x < 256)(q:Q (.bytes (byteArr xs)) s):W P (λZ=>ZD "bytes" [.ref n]) Q E s:=
 W.bind (W.zA hn (W.pure (W.opt (PL xs) (W.AA (by
  rw [bY,aO,eB];exact ⟨aF hz,λx hx=>aF (hr x hx)⟩) (W.pure q)))))
theorem W.QU{H:List O}{L:List (Str×V)}(q:Q (.ref (H.length+1)) ⟨H++ [.itB b 0,.itE H.length 0 none],L⟩):W P (λZ=>ZD "enumerate" [.bytes b]) Q E ⟨H,L⟩:=
 W.bind (W.alloc (W.bind (W.alloc (W.pure (by simpa using q)))))
theorem W.RU{e i:Nat}{o:Option Nat}{Q:Nat->S->Prop}(he:s.h[e]? =some (.itE n i o))(q:Q e s):W P (λZ=>oE (.ref e)) Q E s:=W.zA he (W.pure q)
theorem W.WV{H:List O}{L:List (Str×V)}{xs:List Expr}{k2:Nat}{it i:Nat}{Q:Unit->S->Prop}(hi:H[it]? =some (.itE n i (some k2)))(q:Q () ⟨H.set it (.itE n i none),L⟩):W P (λZ=>ownM (.Tuple xs k p) it (.ref k2)) Q E ⟨H,L⟩:=
 W.zA hi (W.AA (aF rfl) (W.jD (CA hi) q))
theorem W.nP{it i:Nat}{Q:Option V->S->Prop}(hi:s.h[it]? =some (.itE n i none))(hn:s.h[n]? =some (.itB b i))(Ar:i<=b.size)(hne:n≠it)
  (h1:∀ c,b[i]? =some c->Q (some (.ref s.h.length)) {s with h:=(s.h.set n (.itB b (i+1))).set it (.itE n (i+1) (some s.h.length))++ [.tup [.int i,.int (c.toNat:Int)]]})
  (h2:b[i]? =none->Q none {s with h:=s.h.set n .dead}):W P (λZ=>EF it) Q E s:=by
 refine W.zA hi (W.zA hn (W.AA (aF (i03 rfl Ar hne)) ?_));cases e:b[i]? with
 | some c=>exact W.ret (a:=some (.ref s.h.length)) (λZ=>rfl) (h1 c e)
 | none=>exact W.bind (W.jD (CA hn) (W.pure (h2 e)))
theorem W.coE{x1 x2:Str}{p1 p2 p3:Pos}{elt:Expr}{e acc:Nat}{h0:List O}{f:Nat->UInt8->Int}(hx1:J.scope.names.lookup x1=some .local)(Cg:J.scope.names.lookup x2=some .local)(hne:x1≠x2)(hz:b.size<=1000)(l1:h0.length<=n)(l2:h0.length<=e)(l3:h0.length<=acc)(d1:n≠e)(d2:acc≠n)(d3:acc≠e)
  (el:∀ i c h lo,b[i]? =some c->Pre h0 h->lo.lookup x1=some (.int (i:Int))->lo.lookup x2=some (.int (c.toNat:Int))->W P (λF=>F.ev elt J) (λy s'=>y= .int (f i c)/\Pre h s'.h/\s'.l=lo) (λZ Z=>False) {h:=h,l:=lo}):
  ∀ (m i:Nat) (s:S),i+m=b.size->Pre h0 s.h->s.h[n]? =some (.itB b i)->s.h[e]? =some (.itE n i none)->s.h[acc]? =some (.list (((List.range i).map λj=>f j (b.toList.getD j 0)).map V.int))->
   W P (λF=>F.co (.Tuple [.Name x1 p1,.Name x2 p2] k p3) elt [] e acc J) (λZ s'=>Pre h0 s'.h/\s'.h[acc]? =some (.list (((List.range b.size).map λj=>f j (b.toList.getD j 0)).map V.int))) (λZ Z=>False) s:=by
 intro m
 induction m with
 | zero=>
  intro i s hm hp hn he ha;have hi:i=b.size:=hm;subst hi;refine W.coT (W.nP he hn (aY _) d1 (λc hc=>?_) λZ=>⟨hp.set l1,qA (Ne.symm d2) ha⟩);exact aS (fA.mp hc).1 (dO _)
 | succ m ih=>
  intro i s hm hp hn he ha;refine W.coT (W.nP he hn (cC (n6 (bV hm))) d1 (λc hc=>?_) λhc=>?_)
  ·have len1:((s.h.set n (.itB b (i+1))).set e (.itE n (i+1) (some s.h.length))).length=s.h.length:=by simp
   have le:=CA he;have lacc:=CA ha;have ln:=CA hn
   revert len1;refine genE ((s.h.set n (.itB b (i+1))).set e (.itE n (i+1) (some s.h.length))) ?_;intro h1 Cq len1
   have q1:h1[n]? =some (.itB b (i+1)):=by subst Cq;exact qA (Ne.symm d1) (RA hn)
   have q2:h1[e]? =some (.itE n (i+1) (some s.h.length)):=by subst Cq;exact RA (qA d1 he)
   have q3:=ha;replace q3:h1[acc]? =some (.list (((List.range i).map λj=>f j (b.toList.getD j 0)).map V.int)):=by subst Cq;exact qA (Ne.symm d3) (qA (Ne.symm d2) q3)
   have hp1:Pre h0 h1:=by subst Cq;exact (hp.set l1).set l2
   refine W.WV (lA q2) ?_;have q4:((h1++ [O.tup [.int i,.int (c.toNat:Int)]]).set e (.itE n (i+1) none))[s.h.length]? =some (.tup [.int i,.int (c.toNat:Int)]):=qA (bG le) (by rw [<-len1];exact oA);refine W.asT (YB q4) rfl (W.a1 (W.asN hx1 (W.a1 (W.asN Cg (W.as0 (W.WD ?_))))));rw [aN rfl];have Am:Pre h0 ((h1++ [O.tup [.int i,.int (c.toNat:Int)]]).set e (.itE n (i+1) none)):=(hp1.trans (Pre.app _ _)).set l2;refine (el i c _ _ hc Am ?_ ?_).post λy s3 ⟨hy,Ax,hl3⟩=>?_
   ·exact QW hne (OC _)
   ·exact OC _
   subst hy;have a1:=Ax.get (qA (p:=O.itE n (i+1) none) (Ne.symm d3) (lA (t:= [O.tup [.int i,.int (c.toNat:Int)]]) q3));refine W.TD a1 (aF (by simp;exact aT (n6 (bV hm)) (aE hz (by decide)))) ?_;refine ih (i+1) _ ((cV i m 1).symm.trans hm) ((Am.trans Ax).set l3) (qA d2 (Ax.get (qA (Ne.symm d1) (lA q1)))) (qA d3 (Ax.get (RA (lA q2)))) ?_;have hg:b.toList.getD i 0=c:=by rw [dK,fU,hc];rfl
   rw [List.range_succ,cJ,cJ,bJ,List.map_nil,hg] at ⊢;exact RA a1
  ·exact aS (n6 (bV hm)) (cB.mpr (Array.getElem?_eq_none_iff.mp hc))
end
variable {cs:List (Addr×Addr×Str)}
theorem rM(hb:b.size<=8)(q:∀ h,Pre H0 h->Q (.int (OK b.toList)) {h:=h,l:=L0}):
  W (pw pr0 cs w) (λF=>F.call (.glob 235) [.bytes b] (d+1)) Q E ⟨H0,L0⟩:=by
 refine W.f (P:=pw pr0 cs w) (rfl:pr0 235 [.bytes b]=none) ?_;intro P J J' E' L';refine W.stC (W.pA (W.cG (by rfl) (W.xI (cells:= []) rfl rfl (W.cG (by rfl) (W.la rfl (W.en rfl (W.ty (W.QU (W.RU (n:=H0.length) (i:=0) (o:=none) (gx (k:=1) rfl) ?_)))))))));dsimp only;have hl:(H0++ [O.itB b 0,O.itE H0.length 0 none]).length=H0.length+2:=by exact bA
 have p1:Pre H0 (H0++ [O.itB b 0,O.itE H0.length 0 none]++ [O.list []]):=(Pre.app _ _).trans (Pre.app _ _);refine (W.coE (h0:=H0) (b:=b) (n:=H0.length) (f:=λi c=>(c.toNat:Int)*2 ^ (8*i)) rfl rfl (by decide) (aE hb (by decide)) (aY _) (cE _) (by rw [hl];exact bM ..) (bG (dR _)) (by rw [hl];exact aV (eP (by decide))) (by rw [hl];exact cK _) ?_ b.size 0 _ (cW _) p1 (lA (gx (k:=0) rfl)) (lA (gx (k:=1) rfl)) ?_).mono (λ_ s3 ⟨h1,h2⟩=>?_) (λZ Z h=>h.elim)
 ·intro i c h lo hc hp hi hcc;have hi8:i < 8:=aT (fA.mp hc).1 hb;have hc8:=c.toNat_lt;refine W.GA (W.lo hcc (W.GA (W.iA rfl (W.lo hi (W.jA (a:= .int (8*(i:Int))) (λZ=>?_) (W.jA (a:= .int ((c.toNat:Int)*2 ^ (8*i))) (λZ=>?_) (i03 rfl (Pre.refl _) rfl)))))))
  ·show (if (8:Int).natAbs < 2 ^ 64/\(i:Int).natAbs < 2 ^ 64 then Pure.pure (V.int (8*(i:Int))) else EX)=_;rw [aN ⟨by decide,(bB hi8 (by decide):i < 2 ^ 64)⟩]
  ·show (if (c.toNat:Int).natAbs < 2 ^ 64/\0<=8*(i:Int)/\8*(i:Int)<=64 then Pure.pure (V.int ((c.toNat:Int)*2 ^ (8*(i:Int)).toNat)) else EX)=_;rw [aN ⟨(bB hc8 (by decide):c.toNat < 2 ^ 64),cS (8*i),cO.mpr (cZ 8 (cC hi8))⟩];have:(8*(i:Int)).toNat=8*i:=rfl;rw [this]
 ·exact oA
 ·refine ⟨rfl,W.bi (W.sP h2 ?_)⟩;have key:=SQ b.toList;rw [Array.length_toList] at key;rw [key];exact q s3.h h1
theorem VS:∀ (k n i:Nat),i < k->(octs k n)[i]? =some (UInt8.ofNat (n / 256 ^ i % 256)):=by
 intro k
 induction k with
 | zero=>intro n i h;exact aS h (fH _)
 | succ k ih=>
  intro n i h
  induction i using nCq with
  | zero=>rw [Nat.pow_zero,Nat.div_one];rfl
  | succ i=>
   show (UInt8.ofNat (n % 256)::octs k (n / 256))[i+1]? =_;rw [List.getElem?_cons_succ,ih (n / 256) i (fP h),Nat.div_div_eq_div_mul,Nat.pow_succ,Nat.mul_comm 256]
theorem sM{n:Int}(hn:0<=n/\n < 256 ^ 8)(q:∀ h,Pre H0 h->Q (.bytes (octs 8 n.toNat).toArray) {h:=h,l:=L0}):
  W (pw pr0 cs w) (λF=>F.call (.glob 240) [.int n,.int 8] (d+1)) Q E ⟨H0,L0⟩:=by
 refine W.fnK (P:=pw pr0 cs w) (rfl:pr0 240 [.int n,.int 8]=none) (hK:=by rfl) (hb:=rfl) (hf:=rfl) (hok:=by rfl) (hs:=rfl) (hq:=rfl) (hbs:=rfl) (hc:=rfl) ?_;intro P J J' E';dsimp only;refine W.MM rfl rfl oA (W.TT rfl (W.LM ?_));dsimp only;refine W.heap (h':=H0++ [.cell (some (.int n))]) (by simp) ?_;dsimp only;have hc:(H0++ [O.cell (some (.int n))])[H0.length]? =some (.cell (some (.int n))):=oA;refine W.stC (W.sIf (W.RC (W.mJ rfl (W.iA rfl (W.cI hc (W.jA (a:=decide (0<=n)) (λZ=>rfl) ?_))))));rw [aF hn.1,aN rfl];refine W.GA (W.iA rfl (W.lo rfl (W.jA (a:= .int (256 ^ 8)) (λZ=>rfl) (W.jA (a:=decide (n < 256 ^ 8)) (λZ=>rfl) ?_))));rw [aF hn.2];refine W.stN (W.stC (W.pA (W.cG (by rfl) (W.WO (cells:= [("number",H0.length)]) rfl rfl rfl (W.cG (by rfl) (W.la rfl (W.en rfl (W.ty ?_))))))));refine W.bind (W.alloc (W.pure ⟨_,0,8,1,8,λv=>match v with | .int i=> .int (n / 256 ^ i.toNat % 256) | v=>v,λZ=>true,rfl,oA,by decide,by decide,by decide,⟨?_,?_⟩,?_⟩))
 ·intro v hv h lo hp hlo;exact W.WD (i03 rfl (Pre.refl _) rfl)
 ·intro v hv _ h lo hp hlo;obtain x12|i|hi|rfl:=aL.mp hv;have hi:i < 8:=by simpa using hi
  have e0:(0:Int)+1*(i:Int)=(i:Int):=by rw [fW,Int.one_mul]
  rw [e0] at hlo ⊢;have hc':=hp.get (lA (t:= [O.rng 0 8 1]) hc);refine W.GA (W.GA (W.cI hc' (W.GA (W.iA rfl (W.lo hlo (W.jA (a:= .int (8*(i:Int))) (λZ=>?_) (W.jA (a:= .int (n / 256 ^ i)) (λZ=>?_) (W.iA rfl (W.jA (a:= .int (n / 256 ^ i % 256)) (λZ=>?_) (i03 rfl (Pre.refl _) rfl))))))))))
  ·show (if (8:Int).natAbs < 2 ^ 64/\(i:Int).natAbs < 2 ^ 64 then Pure.pure (V.int (8*(i:Int))) else EX)=_;rw [aN ⟨by decide,(bB hi (by decide):i < 2 ^ 64)⟩]
  ·show (if 0<=8*(i:Int)/\8*(i:Int)<=64 then Pure.pure (V.int (n.fdiv (2 ^ (8*(i:Int)).toNat))) else EX)=_;rw [aN ⟨cS (8*i),cO.mpr (cZ 8 (cC hi))⟩];have e1:(8*(i:Int)).toNat=8*i:=rfl;have e2:(2:Int) ^ (8*i)=256 ^ i:=by rw [Int.pow_mul];rfl
   rw [e1,e2,Int.fdiv_eq_ediv_of_nonneg _ (eS (Int.pow_pos (by decide)))]
  ·show Pure.pure (V.int (Builtin.bitAnd (n / 256 ^ i) 255))=_;rw [bitAnd_m8]
 ·intro h acc hp ha jY;have e9:List.map (λv=>match v with | V.int i=>V.int (n / 256 ^ i.toNat % 256) | v=>v) (List.filter (λZ=>true) ((List.range 8).map λi:Nat=>V.int (0+1*(i:Int))))=((List.range 8).map λi:Nat=>n / 256 ^ i % 256).map V.int:=by
   rw [dT.mpr (λZ Z=>rfl),aP,aP];refine bZ λi Z=>?_;have:(0+1*(i:Int)).toNat=i:=by rw [fW,Int.one_mul];rfl
   simp only [Function.comp,this]
  rw [e9] at jY;refine ⟨rfl,W.ty (W.KR jY (cH ..) (λx hx=>?_) ?_)⟩
  ·obtain x12|i|u_|rfl:=aL.mp hx;exact ⟨fX _ (by decide),fE _ (by decide)⟩
  ·have e10:byteArr ((List.range 8).map λi:Nat=>n / 256 ^ i % 256)=(octs 8 n.toNat).toArray:=by
    unfold byteArr;congr 1;refine List.ext_getElem? λi=>?_;rw [aP,bS];by_cases hi:i < 8
    ·rw [eX hi,VS 8 _ i hi];simp only [Option.map_some,Function.comp,Option.some.injEq];have hN:(n.toNat:Int)=n:=Int.toNat_of_nonneg hn.1;have:n / 256 ^ i % 256=((n.toNat / 256 ^ i % 256:Nat):Int):=by rw [Int.natCast_emod,Int.natCast_ediv,hN,Int.natCast_pow];rfl
     rw [this];rfl
    ·rw [dV (by simp;exact eM hi),dV (by rw [rD];exact eM hi)];rfl
   rw [e10];exact q h ((Pre.app _ _).trans ((Pre.app _ _).trans hp))
noncomputable def octV:V->V
 | .int n=> .bytes (octs 8 n.toNat).toArray
 | v=>v
theorem LG{l:Nat}{ns:List Int}(hl:H0[l]? =some (.list (ns.map V.int)))(hn:∀ n∈ns,0<=n/\n < 256 ^ 8)(h2:2<=ns.length)(h3:ns.length<=100)(q:∀ h,Pre H0 h->Q (.bytes (rowB ns)) {h:=h,l:=L0}):
  W (pw pr0 cs w) (λF=>F.call (.glob 245) [.ref l] (d+2)) Q E ⟨H0,L0⟩:=by
 refine W.f (P:=pw pr0 cs w) (d:=d+1) (rfl:pr0 245 [.ref l]=none) ?_;intro P J J' E' L';refine W.stC (W.pA (W.KA rfl rfl rfl (W.iA rfl (W.JR (W.sL (cells:= []) rfl rfl rfl (W.lo rfl (i46 l (ns.map V.int) octV (λZ=>true) rfl hl (by simpa using aE h3 (by decide)) ?_ ?_ ?_)))))))
 ·intro v hv h lo hp hlo;exact W.WD (i03 rfl (Pre.refl _) rfl)
 ·intro v hv _ h lo hp hlo;obtain x12|n|hn1|rfl:=aL.mp hv;exact W.cG (by rfl) (W.lo hlo (W.gl (by rfl) ⟨by rfl,sM (hn n hn1) λh' p'=>i03 rfl p' rfl⟩))
 ·intro h acc hp ha jY;refine ⟨rfl,W.bi (W.MU (bs:=ns.map λn:Int=>(octs 8 n.toNat).toArray) ?_ ?_ (q h hp))⟩
  ·rw [jY,show List.filter (λZ=>true) (ns.map V.int)=ns.map V.int from dT.mpr λZ Z=>rfl,aP,aP];rfl
  ·have hs:∀ l:List Int,((l.map λn:Int=>(octs 8 n.toNat).toArray).map (·.size)).sum=8*l.length:=by
    intro l
    induction l with
    | nil=>rfl
    | cons n r ih=>simp only [List.map_cons,List.sum_cons,ih,List.size_toArray,rD,List.length_cons];rw [Nat.mul_add_one,fK]
   rw [hs];simp only [List.length_map,decide_eq_true_eq];exact ⟨h2,rfl,aE (cZ 8 h3) (by decide)⟩
end
noncomputable def csL:List (Addr×Addr×Str):= [(486,484,"_law_dropped.<locals>.<lambda>"),(481,477,"_law_moved.<locals>.<lambda>"),(474,470,"_law_added.<locals>.<lambda>"),(517,515,"law.<locals>.<lambda>")]
noncomputable def vK:List (Str×Nat):= [("rows",3),("place",2),("base",1)]
noncomputable def lqL:Option (Addr×Addr×Str):=some (517,515,"law.<locals>.<lambda>")
theorem join4{base h:Heap}{p:Program}{loose:List Str}{nY:ExcName->Option Value}{mg mb m:Str->Option Value}{pM:Addr->List V->Option V}
  {sc:Scope} {L fa:Nat} {D a1 a2 a3:Nat} {o1 o2 o3:Obj} {ws:List Value} {ns:List Int} {body:List Stmt} {os:OsState} {drawn:Drawn} {gens:Array GenState} {tk:Tok}
  {Q:PySem.Flow->Shared->Prop} {E:Value->Shared->Prop}
  (P:wI prog ⟨w,base,csL,os⟩ pM) (X:K.In base) (T:Top p loose nY mg mb base) (F:Fr base L h m) (N:News base L h [(D,W.listOf ws.toArray 0),(a3,o3),(a2,o2),(a1,o1),(484,tabObj #[]),(477,tabObj #[]),(470,tabObj #[]),(515,tabObj #[])])
  (hws:IntsAre ws ns) (c1:CodeHd base 486 484) (c2:CodeHd base 481 477) (c3:CodeHd base 474 470) (c4:CodeHd base 517 515) (e1:o1.data= .cell none) (e2:o2.data= .cell none) (e3:o3.data= .cell none) (lt:L < a1/\a1 < a2/\a2 < a3/\a3 < D) (hL:515 < L)
  (hm:m "script"=some (.ref D)) (hg:gens= #[]) (hk:sc.kind= .function) (hc:cellsFrom (L+1) sc.names []= [(("rows" :Str),a3),(("place" :Str),a2),(("base" :Str),a1)])
  (run:W ⟨K,pM,csL⟩ (λF=>tB K F body {scope:=sc,cells:=vK,d:=60,lq:=lqL,stm:=true}) (λf Z=>f= .ret (.bool true)) (λZ Z=>False) ⟨[.list (ns.map V.int),.cell none,.cell none,.cell none],[("script",.ref 0)]⟩)
  (hQ:∀ r:Shared,(∀ b o,base.get? b=some o->r.heap.get? b=some o)->r.gens= #[]->r.os=os->(∀ q∈csL,GrownAt q.2.1 r.heap)->Q (.ret (.bool true)) r):
  wpAny (model prog w) (callerA.deeper (envOfC "law" sc L fa (.ref 517))) (execs body (envOfC "law" sc L fa (.ref 517))) Q E ⟨h,gens,drawn,tk,os⟩:=by
 obtain x04|l1|l2|l3|l4:=lt;refine NS (x:="script") (cs:=csL) (D:=D) (os0:= [(a1,o1),(a2,o2),(a3,o3)]) (J:={scope:=sc,cells:=vK,d:=60,lq:=lqL,stm:=true})
  (P:=P) (X:=X) (T:=T) (F:=F) (N:=N) (hws:=hws) ?_ ?_ ?_ ?_ ?_ ?_ ?_ ?_ ?_ hm ?_ hg ?_ rfl hk ?_ rfl rfl rfl ?_ run hQ
 ·exact mc (by assumption) (mc (by assumption) (mc (by assumption) (mc (by assumption) mn)))
 ·decide+kernel
 ·exact mc (.tail _ (.tail _ (.tail _ (.tail _ (.head _))))) (mc (.tail _ (.tail _ (.tail _ (.tail _ (.tail _ (.head _)))))) (mc (.tail _ (.tail _ (.tail _ (.tail _ (.tail _ (.tail _ (.head _))))))) (mc (.tail _ (.tail _ (.tail _ (.tail _ (.tail _ (.tail _ (.tail _ (.head _)))))))) mn)))
 ·intro q hq;exact mc (p:=λq:Addr×Addr×Str=>q.2.1 < L) (bB (by decide) hL) (mc (bB (by decide) hL) (mc (bB (by decide) hL) (mc hL mn))) q hq
 ·exact .head _
 ·exact mc ⟨.tail _ (.tail _ (.tail _ (.head _))),by assumption⟩ (mc ⟨.tail _ (.tail _ (.head _)),by assumption⟩ (mc ⟨.tail _ (.head _),by assumption⟩ mn))
 ·exact mc l1 (mc (bB l1 l2) (mc (bB l1 (bB l2 l3)) mn))
 ·exact bB l1 (bB l2 (bB l3 l4))
 ·have n1:D≠a1:=aV (bB l2 (bB l3 l4));have n2:D≠a2:=aV (bB l3 l4);have n3:D≠a3:=aV l4;have n4:a1≠a2:=bG l2;have n5:a1≠a3:=bG (bB l2 l3);have n6:a2≠a3:=bG l3;simp [n1,n2,n3,n4,n5,n6]
 ·show sysModules < L;exact bB (show sysModules < 515 by decide) hL
 ·refine {frames:=Around.frames_deeper rfl,handled:=rfl,depth:=(by decide+kernel:1+claimMargin+1+3*60+20 < recursionLimit),units:=(by decide+kernel:4+3+40*60+100 < cLine),cover:=?_};intro env he;have he:=aH.mp he;subst he;exact ⟨by show sc.kind≠_;rw [hk];decide,L,rfl,.inl rfl⟩
 ·show CellsR _ vK (cellsFrom (L+1) sc.names []);rw [hc];exact ⟨rfl,rfl,rfl,rfl,rfl,rfl,trivial⟩
 ·intro q hq;cases hq;exact ⟨rfl,(by decide+kernel:Str.ofString "law"++Str.ofString ".<locals>."++Str.ofString "<lambda>"=Str.ofString "law.<locals>.<lambda>"),.tail _ (.tail _ (.tail _ (.head _)))⟩
theorem lO(ps:List (Array UInt8)):(Builtin.Bytes.joined #[] ps).toList=(ps.map (·.toList)).flatten:=by
 unfold Builtin.Bytes.joined;have key:∀ (l:List (Array UInt8×Nat)) (a:Array UInt8),(l.foldl (λout (p,i)=>(if i > 0 then out++ #[] else out)++p) a).toList=a.toList++(l.map (·.1.toList)).flatten:=by
  intro l
  induction l with
  | nil=>intro a;simp
  | cons x r ih=>
   intro a;rw [List.foldl_cons,ih];obtain ⟨p,i⟩:=x;simp
 rw [key];have:∀ (l:List (Array UInt8)) (k:Nat),((l.zipIdx k).map (·.1.toList))=l.map (·.toList):=by
  intro l
  induction l with
  | nil=>intro k;rfl
  | cons x r ih=>intro k;simp [List.zipIdx_cons,ih]
 rw [this];exact rfl
theorem yG(l:List α):∀ (m a:Nat),a+m<=l.length->((List.range m).map λk=>a+k).filterMap (l[·]?)=(l.drop a).take m:=by
 intro m
 induction m with
 | zero=>intro a _;exact rfl
 | succ m ih=>
  intro a h;have ih:=ih (a+1) (n5 h);rw [List.range_succ_eq_map,bJ,dS,aP];have ha:l[a+0]? =some l[a]:=by rw [Nat.add_zero];exact bK (n6 h)
  rw [ha];dsimp only;have e:(List.map ((λk=>a+k)∘Nat.succ) (List.range m))=(List.range m).map λk=>(a+1)+k:=by
   apply bZ;intro k _;exact (cV a 1 k).symm
  rw [e,ih,gG (n6 h:a < l.length),List.take_succ_cons]
theorem DO{a m:Nat}(h:a+m<=b.size)(hm:0 < m):KBy.picked b (some (a:Int)) (some ((a:Int)+m))=((b.toList.drop a).take m).toArray:=by
 unfold KBy.picked Builtin.Bytes.sliced sliceBounds sliceRange;dsimp only;congr 1;have e1:¬ ((a:Int) < 0):=dG.mpr (cS a);have e2:¬ ((a:Int)+m < 0):=dG.mpr (cS (a+m));have e3:(1:Int) > 0:=by decide
 have x1:max 0 (min (a:Int) (b.size:Int))=a:=by rw [gU (cO.mpr (aE (bM a m) h)),eO (cS a)]
 have x2:max 0 (min ((a:Int)+m) (b.size:Int))=a+m:=by rw [gU (show (a:Int)+m<=b.size from cO.mpr h),eO (show 0<=(a:Int)+m from cS (a+m))]
 have e4:(a:Int) < a+m:=Int.lt_add_of_pos_right _ (eG.mpr hm);simp only [Option.getD_none,e1,e2,e3,if_false,if_true,x1,x2,e4];have c:(((a:Int)+m - a+1 - 1) / 1).toNat=m:=by rw [Int.ediv_one,fQ,Int.add_comm (a:Int),fQ];rfl
 rw [c];have key:=yG b.toList m a (by simpa using h);rw [<-key];have e:((List.range m).map λk:Nat=>((a:Int)+1*(k:Int)).toNat)=(List.range m).map λk=>a+k:=by
  apply bZ;intro k _;rw [Int.one_mul];rfl
 rw [e];simp only [Array.getElem?_toList]
theorem YK(ns:List Int):(rowB ns).toList=(ns.map λn=>octs 8 n.toNat).flatten:=by
 unfold rowB;rw [lO,aP];rfl
theorem oR(ns:List Int):(rowB ns).size=8*ns.length:=by
 rw [<-Array.length_toList,YK]
 induction ns with
 | nil=>rfl
 | cons n r ih=>rw [bJ,List.flatten_cons,bA,ih,rD,fN];exact fK ..
theorem rT:∀ (ns:List Int) (i:Nat) (x:Int),ns[i]? =some x->(((ns.map λn=>octs 8 n.toNat).flatten).drop (8*i)).take 8=octs 8 x.toNat:=by
 intro ns
 induction ns with
 | nil=>intro i x h;cases h
 | cons n r ih=>
  intro i x h
  induction i using nCq with
  | zero=>
   cases h;rw [Nat.mul_zero,hM,bJ,List.flatten_cons,List.take_append_of_le_length (by rw [rD];exact aY _),eE (by rw [rD];exact aY _)]
  | succ i=>
   rw [bJ,List.flatten_cons,List.drop_append,rD,List.drop_of_length_le (by rw [rD];exact cH 8 (8*i)),List.nil_append,show 8*(i+1) - 8=8*i from Nat.add_sub_cancel (n:=8*i) (m:=8)];exact ih i x h
section
section
variable {P:Prg} {s:S} {J:Ev}
theorem W.QT(hz:b.size<=100000)(q:Q (.int b.size) s):W P (λZ=>lB "len" [.bytes b]) Q E s:=W.bind (W.AA (aF hz) (W.pure (W.pure q)))
theorem W.mP(hn:s.h[n]? =some (.list vs))(hz:vs.length<=100000)(q:Q (.int vs.length) s):W P (λZ=>lB "len" [.ref n]) Q E s:=W.bind (W.zA hn (W.AA (aF hz) (W.pure (W.pure q))))
theorem W.RT(hz:x.length<=100000)(q:Q (.int x.length) s):W P (λZ=>lB "len" [.str x]) Q E s:=W.bind (W.AA (aF hz) (W.pure (W.pure q)))
theorem W.QR{H:List O}{L:List (Str×V)}{a b c:Int}(hz:0<=a/\a<=100000/\0<=b/\b<=100000/\0 < c/\c<=100000)(q:Q (.ref H.length) ⟨H++ [.rng a b c],L⟩):W P (λZ=>ZD "range" [.int a,.int b,.int c]) Q E ⟨H,L⟩:=W.AA (aF hz) (W.bind (W.alloc (W.pure q)))
theorem W.TV{l u:Int}(h1:b.size<=100000)(h2:KBy.whole b (some l) (some u)=false)(q:Q (.bytes (KBy.picked b (some l) (some u))) s):W P (λZ=>TH (.bytes b) (.int l) (.int u) .none) Q E s:=
 W.AA (by rw [h2,aF h1];rfl) (W.pure q)
end
noncomputable abbrev pg(w:World):Prg:=pw pr0 csL w
theorem pn(h:a≠235)(h':a≠240)(vs:List V):pr0 a vs=none:=zN h h' vs
theorem PK{ns:List Int}(hn:∀ n∈ns,0<=n/\n < 256 ^ 8)(h3:ns.length=10)(q:∀ h r,Pre H0 h->H0.length<=r->h[r]? =some (.list (ns.map V.int))->Q (.ref r) {h:=h,l:=L0}):
  W (pg w) (λF=>F.call (.glob 250) [.bytes (rowB ns)] (d+2)) Q E ⟨H0,L0⟩:=by
 have Af:(rowB ns).size=80:=by rw [oR,h3]
 refine W.fnK (P:=pg w) (d:=d+1) rfl (hK:=by rfl) (hb:=rfl) (hf:=rfl) (hok:=by rfl) (hs:=rfl) (lq:=none) (hq:=by rfl) (hbs:=rfl) (hc:=rfl) ?_;refine W.MM rfl rfl oA (W.LM ?_);dsimp only;refine W.heap (h':=H0++ [.cell (some (.bytes (rowB ns)))]) (by simp) ?_;dsimp only;have hc:(H0++ [O.cell (some (.bytes (rowB ns)))])[H0.length]? =some (.cell (some (.bytes (rowB ns)))):=oA;refine W.stC (W.sIf (W.xA rfl (W.GA (W.cG (by rfl) (W.li hc (W.en rfl (W.bi (W.QT (by rw [Af];decide) (W.gl (by rfl) ?_)))))))));rw [Af];refine W.jA (λZ=>rfl) (W.iA rfl (W.jA (λZ=>rfl) ?_));refine W.stN ?_;refine W.stC (W.pA (W.WO (cells:= [("octets",H0.length)]) rfl rfl rfl (W.cG (by rfl) (W.iA rfl (W.cG (by rfl) (W.li hc (W.en rfl (W.bi (W.QT (by rw [Af];decide) (W.gl (by rfl) ⟨rfl,W.ty ?_⟩))))))))));rw [Af];refine W.QR (by decide) ⟨_,0,80,8,10,λv=>match v with | .int i=> .int (ns.getD (i / 8).toNat 0) | v=>v,λZ=>true,rfl,oA,by decide,by decide,by decide,⟨?_,?_⟩,?_⟩
 ·intro v hv h lo hp hlo;exact W.WD (i03 rfl (Pre.refl _) rfl)
 ·intro v hv _ h lo hp hlo;obtain x12|i|hi|rfl:=aL.mp hv;have hi:i < 10:=by simpa using hi
  have e0:(0:Int)+8*(i:Int)=((8*i:Nat):Int):=fW _;rw [e0] at hlo ⊢;have hc':=hp.get (lA (t:= [O.rng 0 80 8]) hc);have rZ:ns[i]? =some (ns.getD i 0):=by
   have hlt:i < ns.length:=by rw [h3];exact hi
   rw [bK hlt,dK,bK hlt];rfl
  refine W.cG (by rfl) (W.XF (W.cI hc' (W.EG (W.lo hlo (W.EG (W.GA (W.lo hlo (W.gl (by rfl) (W.jA (λZ=>rfl) (W.ND (W.TV (by rw [Af];decide) ?_ ?_)))))))))))
  ·have w1:(sliceBounds (some ((8*i:Nat):Int)) (some (((8*i:Nat):Int)+8)) none (rowB ns).size).2.1≠((rowB ns).size:Int)\/(sliceBounds (some ((8*i:Nat):Int)) (some (((8*i:Nat):Int)+8)) none (rowB ns).size).1≠0:=by
    unfold sliceBounds;rw [Af];by_cases h0:i=0
    ·subst h0;left;decide
    ·right;simp;rw [aJ (show ¬ 8*(i:Int) < 0 from dG.mpr (cS (8*i)))];exact λe=>Int.lt_irrefl 0 (Int.lt_of_lt_of_le (Int.lt_min.mpr ⟨eG.mpr (Nat.mul_pos (by decide) (Nat.pos_of_ne_zero h0)),by decide⟩) (e▸Int.le_max_right 0 _:min (8*(i:Int)) 80<=0))
   unfold KBy.whole;rcases w1 with w1 | w1
   ·have w2:=beq_eq_false_iff_ne.mpr w1;rw [w2];simp
   ·have w2:=beq_eq_false_iff_ne.mpr w1;rw [w2];simp
  ·refine ⟨rfl,?_⟩;have pc:=DO (b:=rowB ns) (a:=8*i) (m:=8) (by rw [Af];exact cZ 8 hi) (by decide);rw [show (((8*i:Nat):Int)+8)=((8*i:Nat):Int)+((8:Nat):Int) from rfl,pc,YK,rT ns i _ rZ];have hs:(octs 8 (ns.getD i 0).toNat).toArray.size<=8:=by rw [bU,rD];exact aY _
   refine rM hs λh9 p9=>i03 ?_ p9 rfl;have hmem:ns.getD i 0∈ns:=cT rZ;obtain x02|b1|b2:=hn _ hmem;have key:OK (octs 8 (ns.getD i 0).toNat)=(ns.getD i 0).toNat:=wO 8 _ ((Int.toNat_lt b1).mpr b2);dsimp only;rw [key];have e1:(((8*i:Nat):Int) / 8).toNat=i:=Nat.mul_div_cancel_left i (by decide);rw [e1];congr 1;exact Int.toNat_of_nonneg b1
 ·intro h acc hp ha jY;refine q h acc ((Pre.app _ _).trans ((Pre.app _ _).trans hp)) (aE (by simp) ha) ?_;rw [jY];congr 2;rw [dT.mpr (λZ Z=>rfl),aP];refine List.ext_getElem? λi=>?_;rw [bS,bS];by_cases hi:i < 10
  ·rw [eX hi];have hlt:i < ns.length:=by rw [h3];exact hi
   rw [bK hlt];have e1:((0+8*(i:Int)) / 8).toNat=i:=by rw [fW];exact Nat.mul_div_cancel_left i (by decide)
   simp only [Option.map_some,Function.comp,e1,List.getD_eq_getElem?_getD,List.getElem?_eq_getElem hlt,Option.getD_some]
  ·rw [dV (by simp;exact eM hi),dV (by rw [h3];exact eM hi)];rfl
end
section
structure Nd where
 pQ:Int
 par:Int
 used:Int
 bel:Int
 res:Int
 zr:Nat
 kQ:List (Str×Int)
theorem kX(a b c d e f g h i j:V):YE [a,b,c,d,e,f,g,h,i,j] none (some 5) none= [a,b,c,d,e]:=by rfl
theorem lX(a b c d e f g h i j:V):YE [a,b,c,d,e,f,g,h,i,j] (some 5) none none= [f,g,h,i,j]:=by
 unfold YE;have e:sliceBounds (some 5) none none ([a,b,c,d,e,f,g,h,i,j]:List V).length=(5,10,1):=by rfl
 rw [e];have e2:sliceRange 5 10 1= [5,6,7,8,9]:=by rfl
 rw [e2];rfl
noncomputable def Nd.row(n:Nd):List Int:= [n.par,0,n.pQ - 2,n.pQ - 1,0,n.used,n.bel,0,n.res,0]
noncomputable def Nd.share(n:Nd):Int:=max (n.used+n.bel) n.res
noncomputable def Nd.Fit(n:Nd):Prop:=∀ x∈n.row,0<=x/\x < 256 ^ 8
noncomputable abbrev xC(n:Nd):List (V×V):= [(.str "parent",.int n.par),(.str "head",.int 0),(.str "children",.int (n.pQ - 2)),(.str "props",.int (n.pQ - 1)),(.str "origin",.int 0),(.str "used",.int n.used),(.str "below",.int n.bel),(.str "quota",.int 0),(.str "reserved",.int n.res),(.str "refquota",.int 0)]
structure Info(h:List O)(i di:Nat)(n:Nd):Prop where
 inst:h[i]? =some (.inst 274 di)
 own:∃ k,h[di]? =some (.dict (xC n) k)
 ne:i≠di
theorem Info.pre{h':List O}{i di:Nat}{n:Nd}(x:Info h i di n)(p:Pre h h'):Info h' i di n:=⟨p.get x.inst,by obtain x11|k|e:=x.own;exact ⟨k,p.get e⟩,x.ne⟩
section
variable {P:Prg} {s:S} {J:Ev}
theorem W.jK{H:List O}{L:List (Str×V)}{ws:List V}{lo hi st:V}{l u t:Option Int}(h1:PH lo=some l)(h2:PH hi=some u)(h3:PH st=some t)(hn:H[n]? =some (.list vs))(hz:t≠some 0/\vs.length<=100000)(hw:YE vs l u t=ws)(q:Q (.ref H.length) ⟨H++ [.list ws],L⟩):W P (λZ=>TH (.ref n) lo hi st) Q E ⟨H,L⟩:=by
 subst hw;refine W.eq (m:=λZ=>CX n >>=λo=>match o with | .list vs=>BX (decide (t≠some 0/\vs.length<=100000)) >>=λZ=>FX (.list (YE vs l u t)) >>=λr=>Pure.pure (V.ref r) | _=>EX) (W.zA hn (W.AA (aF hz) (W.bind (W.alloc (W.pure q))))) λF=>?_;unfold TH;rw [h1,h2,h3];try rfl
theorem BH(h:s.h[n]? =some (.list vs)):QD (.ref n) s=some (.ok vs,s):=by
 show M.bind (CX n) _ s=_;unfold M.bind CX;rw [h];rfl
theorem W.WT{h0:List O}{C:Nat}{name:Str}{Q:Unit->S->Prop}(e:s.h=h0.set d (.dict es k))(hn:h0[n]? =some (.inst C d))(hd:d < h0.length)(hne:n≠d)(ho:xM P.K C name=true)(hl:(uA (.str name) es && decide (es.length<=900))=true)(q:Q () {h:=h0.set d (KX (.str name) v es k),l:=s.l}):
  W P (λZ=>GE P.K (.ref n) name v) Q E s:=by
 refine W.QB (n:=n) (C:=C) (d:=d) (k:=k) (es:=es) (by rw [e];exact qA (Ne.symm hne) hn) (by rw [e];exact fO hd) ho hl ?_;rw [e,List.set_set];exact q
end
theorem sd(name:Str)(h:name∈(["parent","head","children","props","origin","used","below","quota","reserved","refquota"]:List Str)):xM (Internal.kx.heap_1 w.params) 274 name=true:=by
 simp only [List.mem_cons,List.not_mem_nil,or_false] at h;rcases h with h | h | h | h | h | h | h | h | h | h <;> subst h <;> rfl
theorem gd(name:Str)(h:name∈(["parent","head","children","props","origin","used","below","quota","reserved","refquota"]:List Str)):ZN (Internal.kx.heap_1 w.params) 274 name=true:=by
 simp only [List.mem_cons,List.not_mem_nil,or_false] at h;rcases h with h | h | h | h | h | h | h | h | h | h <;> subst h <;> rfl
theorem qO:findIn (Internal.kx.heap_1 w.params) (.ref 274) "__init__"=some (some (.ref 264)):=by rfl
theorem RP{l:Nat}{n:Nd}(hl:H0[l]? =some (.list (n.row.map V.int)))(q:∀ h,Pre H0 h->Info h (H0.length+1) H0.length n->Q (.ref (H0.length+1)) {h:=h,l:=L0}):
  W (pg w) (λF=>F.call (.glob 274) [.ref l] (d+2)) Q E ⟨H0,L0⟩:=by
 refine W.ST (P:=pg w) (show pr0 274 [.ref l]=none from zN (by decide) (by decide) _) (hK:=by rfl) qO (hK2:=by rfl) (by rfl) ?_;refine W.fd (P:=pg w) (hb:=rfl) (hf:=rfl) (hok:=by rfl) (hs:=rfl) (lq:=none) (hq:=by rfl) (hc:=λZ=>rfl) (hl:=λZ=>rfl) ?_;intro P J J' E' L';have F:Pre H0 (H0++ [O.dict [] 0]++ [O.inst 274 H0.length])/\(H0++ [O.dict [] 0]++ [O.inst 274 H0.length])[H0.length]? =some (.dict [] 0)/\(H0++ [O.dict [] 0]++ [O.inst 274 H0.length])[H0.length+1]? =some (.inst 274 H0.length):=
  ⟨(Pre.app _ _).trans (Pre.app _ _),lA oA,rN⟩
 dsimp only
 revert F;refine genI (H0++ [O.dict [] 0]++ [O.inst 274 H0.length]) ?_;intro h0 F
 obtain x03|p0|d0|i0:=F;refine W.stC (W.sA (W.XF (W.lo rfl (W.ND (W.EG (W.iA rfl (W.ND (W.jK (ws:= [.int n.par,.int 0,.int (n.pQ - 2),.int (n.pQ - 1),.int 0]) rfl rfl rfl (p0.get hl) ⟨by decide,(by decide:10<=100000)⟩ (kX ..) ?_))))))));have F:=And.intro (oA (h:=h0) (o:= .list [.int n.par,.int 0,.int (n.pQ - 2),.int (n.pQ - 1),.int 0])) (Pre.app h0 [.list [.int n.par,.int 0,.int (n.pQ - 2),.int (n.pQ - 1),.int 0]]);refine W.asT (BH F.1) rfl ?_;replace F:=F.2
 revert F;refine genI (h0++ [O.list [.int n.par,.int 0,.int (n.pQ - 2),.int (n.pQ - 1),.int 0]]) ?_;intro h1 F
 have d1:=F.get d0;refine W.heap (h':=h1.set H0.length (.dict [] 0)) (DN d1).symm ?_;iterate 5 (refine W.a1 (W.asA (W.lo rfl (W.WT rfl (F.get i0) (CA d1) (cK _) (sd _ (by repeat (first | exact .head _ | refine .tail _ ?_))) rfl ?_))))
 refine W.as0 ?_;have F:=And.intro ((p0.trans F).set (o:= .dict [(.str "parent",.int n.par),(.str "head",.int 0),(.str "children",.int (n.pQ - 2)),(.str "props",.int (n.pQ - 1)),(.str "origin",.int 0)] 5) (aY _)) (And.intro (RA (p:= .dict [(.str "parent",.int n.par),(.str "head",.int 0),(.str "children",.int (n.pQ - 2)),(.str "props",.int (n.pQ - 1)),(.str "origin",.int 0)] 5) d1) (qA (p:= .dict [(.str "parent",.int n.par),(.str "head",.int 0),(.str "children",.int (n.pQ - 2)),(.str "props",.int (n.pQ - 1)),(.str "origin",.int 0)] 5) (bG (dR _)) (F.get i0)));refine W.heap (h':=h1.set H0.length (.dict [(.str "parent",.int n.par),(.str "head",.int 0),(.str "children",.int (n.pQ - 2)),(.str "props",.int (n.pQ - 1)),(.str "origin",.int 0)] 5)) rfl ?_;dsimp only
 revert F;refine genI (h1.set H0.length (.dict [(.str "parent",.int n.par),(.str "head",.int 0),(.str "children",.int (n.pQ - 2)),(.str "props",.int (n.pQ - 1)),(.str "origin",.int 0)] 5)) ?_;intro h2 F
 obtain x03|p2|d2|i2:=F;refine W.stC (W.sA (W.XF (W.lo rfl (W.EG (W.iA rfl (W.ND (W.ND (W.jK (ws:= [.int n.used,.int n.bel,.int 0,.int n.res,.int 0]) rfl rfl rfl (p2.get hl) ⟨by decide,(by decide:10<=100000)⟩ (lX ..) ?_))))))));have F:=And.intro (oA (h:=h2) (o:= .list [.int n.used,.int n.bel,.int 0,.int n.res,.int 0])) (Pre.app h2 [.list [.int n.used,.int n.bel,.int 0,.int n.res,.int 0]]);refine W.asT (BH F.1) rfl ?_;replace F:=F.2
 revert F;refine genI (h2++ [O.list [.int n.used,.int n.bel,.int 0,.int n.res,.int 0]]) ?_;intro h3 F
 have d3:=F.get d2;refine W.heap (h':=h3.set H0.length (.dict [(.str "parent",.int n.par),(.str "head",.int 0),(.str "children",.int (n.pQ - 2)),(.str "props",.int (n.pQ - 1)),(.str "origin",.int 0)] 5)) (DN d3).symm ?_;iterate 5 (refine W.a1 (W.asA (W.lo rfl (W.WT rfl (F.get i2) (CA d3) (cK _) (sd _ (by repeat (first | exact .head _ | refine .tail _ ?_))) rfl ?_))))
 refine W.as0 (W.stN ?_);exact ⟨rfl,q (h3.set H0.length (.dict (xC n) 10)) ((p2.trans F).set (aY _)) ⟨qA (bG (dR _)) (F.get i2),⟨10,RA d3⟩,cK _⟩⟩
end
variable {ns:List Nd}
section
section
variable {P:Prg} {s:S} {J:Ev}
theorem W.UI{H:List O}{L:List (Str×V)}{x y:Nat}{u v:List V}(hx:H[x]? =some (.list u))(hy:H[y]? =some (.list v))(hz:u.length+v.length<=100000)(q:Q (.ref H.length) ⟨H++ [.list (u++v)],L⟩):W P (λZ=>binM .Add (.ref x) (.ref y)) Q E ⟨H,L⟩:=
 W.zA hx (W.zA hy (W.AA (aF hz) (W.bind (W.alloc (W.pure q)))))
end
theorem Base.pre{s s':S}{b bd N Zq:Nat}{hY:Int}{hZ zaps:List (V×V)}(B:Base s b bd N Zq hY hZ zaps)(p:Pre s.h s'.h):Base s' b bd N Zq hY hZ zaps where
 inst:=p.get B.inst
 own:=by obtain x11|k|e:=B.own;exact ⟨k,p.get e⟩
 nts:=by obtain x11|k|e:=B.nts;exact ⟨k,p.get e⟩
 zps:=by obtain x11|k|e:=B.zps;exact ⟨k,p.get e⟩
 nk:=B.nk
 zk:=B.zk
 ne:=B.ne
theorem mM:qD (Internal.kx.heap_1 w.params) 226 "set_note" 167=true:=by rfl
theorem jM:qD (Internal.kx.heap_1 w.params) 226 "is_there" 146=true:=by rfl
theorem lM:qD (Internal.kx.heap_1 w.params) 226 "new_note" 153=true:=by rfl
theorem iM:qD (Internal.kx.heap_1 w.params) 226 "drop" 181=true:=by rfl
theorem yN:qD (Internal.kx.heap_1 w.params) 226 "get" 202=true:=by rfl
theorem NQ:qD (Internal.kx.heap_1 w.params) 226 "put" 209=true:=by rfl
theorem OQ:qD (Internal.kx.heap_1 w.params) 226 "take" 216=true:=by rfl
theorem OJ:qD (Internal.kx.heap_1 w.params) 226 "names" 223=true:=by rfl
theorem HW:qD (Internal.kx.heap_1 w.params) 274 "row" 271=true:=by rfl
theorem QP{i di:Nat}{n:Nd}(I:Info H0 i di n)(q:∀ h r,Pre H0 h->H0.length<=r->h[r]? =some (.list (n.row.map V.int))->Q (.ref r) {h:=h,l:=L0}):
  W (pg w) (λF=>F.call (.glob 271) [.ref i] (d+1)) Q E ⟨H0,L0⟩:=by
 obtain x11|k|own:=I.own;refine W.f (P:=pg w) rfl ?_;intro P J J' E' L';refine W.stC (W.sA (W.list rfl rfl ?_));iterate 5 (refine W.LA rfl (W.lo rfl (W.rA I.inst own (gd _ (by decide)) rfl rfl ?_)))
 refine W.asN rfl (W.stC (W.pA (W.GA (W.lo rfl (W.list rfl rfl ?_)))));refine genE (O.list [V.int n.par,V.int 0,V.int (n.pQ - 2),V.int (n.pQ - 1),V.int 0]) ?_;intro X hX;iterate 5 (refine W.LA rfl (W.lo rfl (W.rA (lA I.inst) (lA own) (gd _ (by decide)) rfl rfl ?_)))
 refine W.UI (u:= [V.int n.par,V.int 0,V.int (n.pQ - 2),V.int (n.pQ - 1),V.int 0]) (v:= [V.int n.used,V.int n.bel,V.int 0,V.int n.res,V.int 0]) (by subst hX;exact lA oA) (oA) (cH ..) ?_;refine q _ _ ?_ ?_ ?_
 ·exact (Pre.app _ _).trans ((Pre.app _ _).trans (Pre.app _ _))
 ·simp
 ·exact oA
theorem VH{b bd N Zq i di:Nat}{hY p:Int}{hZ zaps:List (V×V)}{n:Nd}(B:Base ⟨H0,L0⟩ b bd N Zq hY hZ zaps)(hx:IA (.int p) hZ=some v)(I:Info H0 i di n)(hf:n.Fit)
  (q:∀ h k,Pre H0 h->h[N]? =some (.dict hZ k)->Q .none {h:=h.set N (KX (.int p) (.bytes (rowB n.row)) hZ k),l:=L0}):
  W (pg w) (λF=>F.call (.glob 292) [.ref b,.int p,.ref i] (d+3)) Q E ⟨H0,L0⟩:=by
 obtain x11|k1|own:=B.own;obtain x11|k2|Cx:=I.own;refine W.f (P:=pg w) rfl ?_;intro P J J' E' L';refine W.stC (W.iB rfl (W.KA rfl rfl rfl (W.lo rfl (W.YA B.inst own mM rfl rfl (W.lo rfl (W.cG (by rfl) (W.KA rfl rfl rfl (W.lo rfl (W.YA I.inst Cx HW rfl rfl ⟨by rfl,?_⟩)))))))));refine QP I λh r hp hr hl=>?_;refine ⟨by rfl,LG (ns:=n.row) hl hf (by simp [Nd.row]) (by simp [Nd.row]) λh2 Am=>⟨by rfl,?_⟩⟩;refine EO (λZ=>rfl) (λZ=>rfl) (B.pre (s':=⟨h2,_⟩) (hp.trans Am)) hx λk hk=>?_;exact W.stN (q h2 k (hp.trans Am) hk)
theorem pO{b bd N Zq:Nat}{hY p:Int}{hZ zaps:List (V×V)}{n:Nd}(B:Base ⟨H0,L0⟩ b bd N Zq hY hZ zaps)(hx:IA (.int p) hZ=some (.bytes (rowB n.row)))(hf:n.Fit)
  (q:∀ h i di,Pre H0 h->H0.length<=i->H0.length<=di->Info h i di n->Q (.ref i) {h:=h,l:=L0}):
  W (pg w) (λF=>F.call (.glob 285) [.ref b,.int p] (d+3)) Q E ⟨H0,L0⟩:=by
 obtain x11|k1|own:=B.own;refine W.f (P:=pg w) rfl ?_;intro P J J' E' L';refine W.stC (W.pA (W.cG (by rfl) (W.cG (by rfl) (W.KA rfl rfl rfl (W.lo rfl (W.YA B.inst own MQ rfl rfl (W.la rfl (W.em (by rfl) ?_))))))));refine vU (λZ=>rfl) (B.pre (s':=⟨H0,_⟩) (Pre.refl _)) hx ⟨by rfl,PK hf rfl λh r hp hr hl=>⟨by rfl,?_⟩⟩;refine RP hl λh2 Am I=>?_;have hlen:H0.length<=h.length:=hp.len;exact q h2 _ _ (hp.trans Am) (cM hlen) hlen I
theorem iC{i di:Nat}{n:Nd}(I:Info H0 i di n)(q:Q (.int n.share) ⟨H0,L0⟩):
  W (pg w) (λF=>F.call (.glob 389) [.ref i] (d+1)) Q E ⟨H0,L0⟩:=by
 obtain x11|k|own:=I.own;refine W.f (P:=pg w) rfl ?_;intro P J J' E' L';refine W.stC (W.pA (W.cG (by rfl) (W.GA (W.LA rfl (W.lo rfl (W.rA I.inst own (gd _ (by decide)) rfl rfl ?_))))));refine W.LA rfl (W.lo rfl (W.rA I.inst own (gd _ (by decide)) rfl rfl (W.jA (λZ=>rfl) (W.LA rfl (W.lo rfl (W.rA I.inst own (gd _ (by decide)) rfl rfl ⟨rfl,W.bi (W.jA (λZ=>rfl) q)⟩))))))
end
theorem uB(k v:V):∀ (es:List (V×V)) (j:V),IA j (putK k v es)=if k=j then some v else IA j es:=by
 intro es
 induction es with
 | nil=>intro j;exact rfl
 | cons z0 r ih=>
  intro j;obtain ⟨y,u⟩:=z0;rw [OI];by_cases h:y=k
  ·subst h;rw [aN rfl,UB,UB];by_cases h2:y=j
   ·rw [aN h2,aN h2]
   ·rw [aJ h2,aJ h2,aJ h2]
  ·rw [aJ h];rw [UB,UB];by_cases h2:y=j
   ·rw [aN h2,aN h2];have:k≠j:=λe=>h (h2.trans e.symm);rw [aJ this]
   ·rw [aJ h2,aJ h2];exact ih j
theorem ZA(k:V):∀ (es:List (V×V)) (j:V),k≠j->IA j (zB k es)=IA j es:=by
 intro es
 induction es with
 | nil=>intro j _;exact rfl
 | cons z0 r ih=>
  intro j h;obtain ⟨y,u⟩:=z0;rw [UE];by_cases h2:y=k
  ·rw [aN h2];rw [UB];rw [aJ (λe=>h (h2.symm.trans e))]
  ·rw [aJ h2,UB,UB,ih j h]
theorem WN{k:V}:∀ {es:List (V×V)},k∉es.map (·.1)->IA k es=none:=by
 intro es
 induction es with
 | nil=>intro _;exact rfl
 | cons z0 r ih=>
  intro h;obtain ⟨y,u⟩:=z0;rw [UB];rw [aJ (λe=>h (by rw [e];exact .head _)),ih (λe=>h (by simp at e ⊢;exact .inr e))]
theorem CJ(k:V):∀ (es:List (V×V)),(es.map (·.1)).Nodup->IA k (zB k es)=none:=by
 intro es
 induction es with
 | nil=>intro _;exact rfl
 | cons z0 r ih=>
  intro h;obtain ⟨y,u⟩:=z0;simp only [List.map_cons,List.nodup_cons] at h;rw [UE];by_cases h2:y=k
  ·rw [aN h2];subst h2;exact WN h.1
  ·rw [aJ h2];rw [UB];rw [aJ h2];exact ih h.2
theorem SP(k v:V):∀ (es:List (V×V)),(IA k es).isSome=true->(putK k v es).map (·.1)=es.map (·.1):=by
 intro es
 induction es with
 | nil=>intro h;cases h
 | cons z0 r ih=>
  intro h;obtain ⟨y,u⟩:=z0;rw [OI];by_cases h2:y=k
  ·rw [aN h2];rfl
  ·rw [aJ h2];rw [UB] at h;rw [aJ h2] at h;rw [bJ,ih h];rfl
theorem UJ(k v:V):∀ (es:List (V×V)),IA k es=none->putK k v es=es++ [(k,v)]:=by
 intro es
 induction es with
 | nil=>intro _;exact rfl
 | cons z0 r ih=>
  intro h;obtain ⟨y,u⟩:=z0;rw [OI];rw [UB] at h;by_cases h2:y=k
  ·rw [aN h2] at h;cases h
  ·rw [aJ h2] at h ⊢;rw [ih h];rfl
theorem BK{k:V}:∀ {es:List (V×V)},IA k es=none->k∉es.map (·.1):=by
 intro es
 induction es with
 | nil=>intro _;exact λh=>aS h cR
 | cons z0 r ih=>
  intro h;obtain ⟨y,u⟩:=z0;rw [UB] at h;split at h
  ·cases h
  ·rename_i h2;simp only [List.map_cons,List.mem_cons,not_or];exact ⟨λe=>h2 e.symm,ih h⟩
theorem TC(k:V):∀ (es:List (V×V)),(zB k es).length<=es.length:=by
 intro es
 induction es with
 | nil=>exact aY 0
 | cons z0 r ih=>
  obtain ⟨y,u⟩:=z0;rw [UE];split
  ·exact cE _
  ·exact bP (ih)
theorem jU(k:V):∀ (es:List (V×V)),(zB k es).Sublist es:=by
 intro es
 induction es with
 | nil=>exact List.Sublist.refl _
 | cons z0 r ih=>
  obtain ⟨y,u⟩:=z0;rw [UE];split
  ·exact List.sublist_cons_self _ _
  ·exact (ih).cons₂ _
theorem YM(k v:V)(es:List (V×V))(h:(es.map (·.1)).Nodup):((putK k v es).map (·.1)).Nodup:=by
 cases e:IA k es with
 | none=>
  rw [UJ k v es e,cJ];refine dJ.mpr ⟨h,by simp,?_⟩;intro a ha b hb e2;simp at hb;subst hb e2;exact BK e ha
 | some u=>rw [SP k v es (by rw [e];rfl)];exact h
theorem RH{i:V}(hi:BQ i=true)(h:yB es=true):yB (putK i v es)=true:=by
 unfold yB at h ⊢
 induction es with
 | nil=>show (BQ i && true)=true;rw [hi];rfl
 | cons e r ih=>
  obtain ⟨y,u⟩:=e;simp only [List.all_cons,Bool.and_eq_true] at h;rw [OI];split
  ·simp only [List.all_cons,Bool.and_eq_true];exact h
  ·simp only [List.all_cons,Bool.and_eq_true];exact ⟨h.1,ih h.2⟩
theorem BI{i:V}(h:yB es=true):yB (zB i es)=true:=by
 unfold yB at h ⊢;rw [eB] at h ⊢;exact λe he=>h e ((jU i es).subset he)
section
noncomputable def ndAt(ns:List Nd)(p:Int):Option Nd:=ns.find? λn=>decide (n.pQ=p)
theorem wA{p:Int}{n:Nd}(h:ndAt ns p=some n):n∈ns/\n.pQ=p:=⟨gF h,by simpa using fV h⟩
structure Adr where
 b:Nat
 bd:Nat
 N:Nat
 Zq:Nat
 zn:Nat
noncomputable abbrev foot(A:Adr)(ns:List Nd):List Nat:=A.b::A.bd::A.N::A.Zq::A.zn::ns.map (·.zr)
noncomputable abbrev HD(n:Nd):List (V×V):=n.kQ.map λe=>(.str e.1,.int e.2)
structure Rep(s:S)(A:Adr)(hY:Int)(ns:List Nd)(hZ zaps:List (V×V)):Prop where
 base:Base s A.b A.bd A.N A.Zq hY hZ zaps
 hnotes:∀ p,IA (.int p) hZ=(ndAt ns p).map λn=> .bytes (rowB n.row)
 nnd:(hZ.map (·.1)).Nodup
 znames:IA (.int 1) zaps=some (.ref A.zn)
 zkids:∀ n∈ns,IA (.int (n.pQ - 2)) zaps=some (.ref n.zr)
 zprops:∀ n∈ns,(IA (.int (n.pQ - 1)) zaps).isSome=true
 znone:∀ p,p % 3=1->p≠1->IA (.int p) zaps=none
 lens:(hZ.length:Int)<=hY/\(zaps.length:Int)<=hY
 root:∃ k,s.h[A.zn]? =some (.dict [(.str "root",.int 4)] k)
 kQ:∀ n∈ns,∃ k,s.h[n.zr]? =some (.dict (HD n) k)
 fit:∀ n∈ns,n.Fit
 kok:∀ n∈ns,n.kQ.length < 64/\(n.kQ.map (·.1)).Nodup
 addr:(foot A ns).Nodup
 places:∀ n∈ns,n.pQ % 3=1/\4<=n.pQ/\n.pQ<=hY
 pnd:(ns.map (·.pQ)).Nodup
 low:hY % 3=1/\4<=hY/\hY<=800
theorem Rep.pre{s s':S}{A:Adr}{hY:Int}{hZ zaps:List (V×V)}(R:Rep s A hY ns hZ zaps)(p:Pre s.h s'.h):Rep s' A hY ns hZ zaps:=
 {R with base:=R.base.pre p,root:=by obtain x11|k|e:=R.root;exact ⟨k,p.get e⟩,kQ:=λn hn=>by obtain x11|k|e:=R.kQ n hn;exact ⟨k,p.get e⟩}
theorem Rep.loc{A:Adr}{hY:Int}{hZ zaps:List (V×V)}(R:Rep ⟨H0,L0⟩ A hY ns hZ zaps)(l:List (Str×V)):Rep ⟨H0,l⟩ A hY ns hZ zaps:=R.pre (Pre.refl H0)
theorem Rep.on{A:Adr}{hY:Int}{hZ zaps:List (V×V)}(R:Rep ⟨H0,L0⟩ A hY ns hZ zaps)(p:Pre H0 h)(l:List (Str×V)):Rep ⟨h,l⟩ A hY ns hZ zaps:=R.pre p
theorem xW{A:Adr}(nd:(foot A ns).Nodup):A.N≠A.b/\A.N≠A.bd/\A.N≠A.Zq/\A.N≠A.zn/\∀ a∈ns,A.N≠a.zr:=by
 obtain x02|h1|nd:=bN.mp nd;obtain x02|h2|nd:=bN.mp nd;obtain x02|h3|nd:=bN.mp nd;exact i05 (λz=>h1 (by rw [<-z];exact .tail _ (.head _))) (λz=>h2 (by rw [<-z];exact .head _)) (λz=>h3 (by rw [z];exact .head _)) (λz=>h3 (by rw [z];exact .tail _ (.head _))) λa ha z=>h3 (by rw [z];exact .tail _ (.tail _ (bI ha)))
theorem DJ{A:Adr}(nd:(foot A ns).Nodup)(i:Nat)(hi:i∈A.zn::ns.map (·.zr)):i∉ [A.bd,A.N,A.Zq]:=λhj=>
 (dJ.mp (show ([A.bd,A.N,A.Zq]++(A.zn::ns.map (·.zr))).Nodup from (bN.mp nd).2)).2.2 i hj i hi rfl
theorem KJ(x:Str)(n:Nd):uA (.str x) (HD n)=true:=by
 unfold uA;rw [eB];intro e he;obtain x12|q|u_|rfl:=aL.mp he;rfl
noncomputable def kidV(n:Nd)(x:Str):V:=match n.kQ.lookup x with
 | some c=> .int c
 | none=> .none
theorem wH(x:Str):∀ l:List (Str×Int),IA (.str x) (l.map λe=>(V.str e.1,V.int e.2))=(l.lookup x).map V.int:=by
 intro l
 induction l with
 | nil=>exact rfl
 | cons z0 r ih=>
  obtain ⟨y,c⟩:=z0;rw [bJ,bQ];rw [UB];by_cases h:y=x
  ·subst h;simp
  ·have h1:¬ (V.str y=V.str x):=λe=>h (vstr e);have h2:(x==y)=false:=by simpa using λe:x=y=>h e.symm
   rw [aJ h1,h2];exact ih
theorem wN(n:Nd)(x:Str):(IA (.str x) (HD n)).getD .none=kidV n x:=by
 unfold HD kidV;rw [wH];cases n.kQ.lookup x <;> rfl
theorem FR(l:List Str):WH (l.map V.str)=some l:=qF (f:=asS) (g:=V.str) (λZ=>rfl) l
theorem PF(l:List Str):xD (l.map V.str)=some ((SA jB l).map V.str):=by
 induction l using lCq with
 | nil=>rfl
 | cons x r=>
  have h1:NE ((x::r).map V.str)=none:=rfl;unfold xD;rw [h1,FR]
noncomputable def BA(n:Nd):List Str:=SA jB (n.kQ.map (·.1))
section
variable {A:Adr} {hY:Int} {hZ zaps:List (V×V)}
theorem Rep.load(R:Rep ⟨H0,L0⟩ A hY ns hZ zaps){p:Int}{n:Nd}(hp:ndAt ns p=some n)
  (q:∀ h i di,Pre H0 h->H0.length<=i->H0.length<=di->Info h i di n->Q (.ref i) {h:=h,l:=L0}):W (pg w) (λF=>F.call (.glob 285) [.ref A.b,.int p] (d+3)) Q E ⟨H0,L0⟩:=
 pO R.base (by rw [R.hnotes,hp];rfl) (R.fit n (wA hp).1) q
theorem jG(R:Rep ⟨H0,L0⟩ A hY ns hZ zaps){p:Int}{n:Nd}(hp:ndAt ns p=some n)(q:∀ h,Pre H0 h->Q (kidV n x) {h:=h,l:=L0}):
  W (pg w) (λF=>F.call (.glob 325) [.ref A.b,.int p,.str x] (d+4)) Q E ⟨H0,L0⟩:=by
 obtain x11|k1|own:=R.base.own;obtain x02|hn|Dg:=wA hp;refine W.f (P:=pg w) rfl ?_;intro P J J' E' L';refine W.stC (W.pA (W.KA rfl rfl rfl (W.lo rfl (W.YA R.base.inst own yN rfl rfl (W.LA rfl (W.cG (by rfl) (W.la rfl (W.la rfl ⟨by rfl,?_⟩))))))));refine (R.loc _).load hp λh i di iZ h1 h2 I=>?_;obtain x11|k2|Cx:=I.own;refine W.rA I.inst Cx (gd _ (by decide)) rfl rfl (W.la rfl (W.em (by rfl) ?_));have R2:=R.on iZ;obtain x11|k3|hk:=(R2 []).kQ n hn;refine HS (λZ=>rfl) (λZ=>rfl) (R2 _).base (R.zkids n hn) hk (KJ x n) ?_;rw [wN];exact q h iZ
theorem sF(R:Rep ⟨H0,L0⟩ A hY ns hZ zaps){p:Int}{n:Nd}(hp:ndAt ns p=some n)(q:∀ h r,Pre H0 h->H0.length<=r->h[r]? =some (.list ((BA n).map V.str))->Q (.ref r) {h:=h,l:=L0}):
  W (pg w) (λF=>F.call (.glob 332) [.ref A.b,.int p] (d+4)) Q E ⟨H0,L0⟩:=by
 obtain x11|k1|own:=R.base.own;obtain x02|hn|Dg:=wA hp;refine W.f (P:=pg w) rfl ?_;intro P J J' E' L';refine W.stC (W.pA (W.KA rfl rfl rfl (W.lo rfl (W.YA R.base.inst own OJ rfl rfl (W.LA rfl (W.cG (by rfl) (W.la rfl (W.la rfl ⟨by rfl,?_⟩))))))));refine (R.loc _).load hp λh i di iZ h1 h2 I=>?_;obtain x11|k2|Cx:=I.own;refine W.rA I.inst Cx (gd _ (by decide)) rfl rfl ⟨by rfl,?_⟩;have R2:=R.on iZ;obtain x11|k3|hk:=(R2 []).kQ n hn;have hsv:xD ((HD n).map (·.1))=some ((BA n).map V.str):=by
  have e:=PF (n.kQ.map (·.1));rw [aP] at e;rw [show (HD n).map (·.1)=n.kQ.map (V.str∘λx=>x.1) from by unfold HD;rw [aP];rfl];exact e
 refine nM (λZ=>rfl) (λZ=>rfl) (R2 _).base (R.zkids n hn) hk (by simpa using (R.kok n hn).1) hsv ?_;exact q _ _ (iZ.trans (Pre.app _ _)) iZ.len oA
theorem zG(R:Rep ⟨H0,L0⟩ A hY ns hZ zaps)(q:∀ h,Pre H0 h->Q (.int 4) {h:=h,l:=L0}):
  W (pg w) (λF=>F.call (.glob 318) [.ref A.b] (d+3)) Q E ⟨H0,L0⟩:=by
 obtain x11|k1|own:=R.base.own;obtain x11|k2|hz:=R.root;refine W.f (P:=pg w) rfl ?_;intro P J J' E' L';refine W.stC (W.sA (W.KA rfl rfl rfl (W.lo rfl (W.YA R.base.inst own yN rfl rfl (W.gl (by rfl) (W.gl (by rfl) ⟨by rfl,?_⟩))))));refine HS (λZ=>rfl) (λZ=>rfl) (R.loc _).base R.znames hz rfl ?_;refine W.asN rfl (W.stC (W.sIf (W.xA rfl (W.lo rfl (W.iA rfl (W.jA (λZ=>rfl) ?_))))));refine W.stN (W.stC (W.pA (W.lo rfl ?_)));exact q _ (Pre.refl _)
end
end
section
noncomputable def LETS:Str:="abcdefghijklmnopqrstuvwxyz0123456789-_."
noncomputable def BF(x:Str):Bool:=(x.cps.toList.map λc=>Txt.contains LETS ⟨#[c]⟩).all λb=>b
noncomputable def MA(x:Str):Bool:=(decide (1<=(x.length:Int)) && decide ((x.length:Int)<=12) && BF x) && !(decide ("."=x) || (decide (".."=x) || false))
theorem pS(l:List Bool):rJ (l.map V.bool)=some l:=qF (f:=asB) (g:=V.bool) (λZ=>rfl) l
section
variable {P:Prg} {s:S} {J:Ev}
theorem W.NT{bs:List Bool}(hn:s.h[n]? =some (.list (bs.map V.bool)))(q:Q (.bool (bs.all λb=>b)) s):W P (λZ=>lB "all" [.ref n]) Q E s:=W.bind (W.zA hn (W.pure (W.opt (pS bs) (W.pure q))))
theorem W.lH{y:Str}(hz:x.length+y.length<=100000)(q:Q (.str (x++y)) s):W P (λZ=>binM .Add (.str x) (.str y)) Q E s:=W.eq (m:=λZ=>Pure.pure (V.str (x++y))) (W.pure q) λZ=>by show (if x.length+y.length<=100000 then Pure.pure (V.str (x++y)) else EX) s=_;rw [aN hz]
theorem W.inT{a:V}{b:Bool}{Q:Bool->S->Prop}(hn:s.h[n]? =some (.tup vs))(hi:inL a vs=some b)(q:Q b s):W P (λZ=>cmpM .In a (.ref n)) Q E s:=W.zA hn (W.VD hi q)
theorem W.NR{a:V}{b:Bool}{Q:Bool->S->Prop}(hn:s.h[n]? =some (.tup vs))(hi:inL a vs=some b)(q:Q (!b) s):W P (λZ=>cmpM .NotIn a (.ref n)) Q E s:=W.bind (W.zA hn (W.VD hi (W.pure q)))
end
section
theorem HM(hz:x.cps.size<=1000)(q:∀ h,Pre H0 h->MA x=true->Q .none {h:=h,l:=L0})(e:∀ h,Pre H0 h->MA x=false->E 99 {h:=h,l:=L0}):
  W (pg w) (λF=>F.call (.glob 297) [.str x] (d+1)) Q E ⟨H0,L0⟩:=by
 have hl:x.length<=1000:=hz;refine W.f (P:=pg w) rfl ?_;intro P J J' E' L';refine W.stC (W.sIf (W.oF (W.qC (W.RC (W.mJ rfl (W.iA rfl (W.cG (by rfl) (W.la rfl (W.en rfl (W.bi (W.RT (aE hl (by decide)) (W.jA (λZ=>rfl) ?_))))))))))));cases h1:decide (1<=(x.length:Int)) with
 | false=>
  exact W.stC (W.lC (C:=99) (by rfl) rfl (by rfl) (W.GA (W.iA rfl (W.lo rfl (W.lH (aE (cY hl 9) (by decide)) (e _ (Pre.refl _) (by unfold MA;rw [h1];rfl)))))))
 | true=>
  refine W.gl (by rfl) (W.jA (λZ=>rfl) ?_);cases h2:decide ((x.length:Int)<=12) with
  | false=>
   exact W.stC (W.lC (C:=99) (by rfl) rfl (by rfl) (W.GA (W.iA rfl (W.lo rfl (W.lH (aE (cY hl 9) (by decide)) (e _ (Pre.refl _) (by unfold MA;rw [h1,h2];rfl)))))))
  | true=>
   refine W.qC (W.RC (W.qB rfl (W.cG (by rfl) (W.XO (cells:= []) rfl rfl rfl (W.lo rfl (i34 x (λv=>match v with | .str l=> .bool (Txt.contains LETS l) | v=>v) (λZ=>true) rfl hz ⟨?_,?_⟩ ?_))))))
   ·intro v hv h lo hp hlo;exact W.WD (i03 rfl (Pre.refl _) rfl)
   ·intro v hv _ h lo hp hlo;obtain x12|c|hc|rfl:=aL.mp hv;exact W.UD rfl (W.lo hlo (W.gl (by rfl) (W.jA (λZ=>rfl) (i03 rfl (Pre.refl _) rfl))))
   ·intro h acc hp ha jY;refine ⟨rfl,W.bi (W.NT (bs:=x.cps.toList.map λc=>Txt.contains LETS ⟨#[c]⟩) ?_ (W.jA (λZ=>rfl) ?_))⟩
    ·rw [jY,dT.mpr (λZ Z=>rfl),aP,aP];rfl
    cases h3:BF x with
    | false=>
     have h3':((x.cps.toList.map λc=>Txt.contains LETS ⟨#[c]⟩).all λb=>b)=false:=h3;rw [h3'];exact W.stC (W.lC (C:=99) (by rfl) rfl (by rfl) (W.GA (W.iA rfl (W.lo rfl (W.lH (aE (cY hl 9) (by decide)) (e _ hp (by unfold MA;rw [h3];simp)))))))
    | true=>
     have h3':((x.cps.toList.map λc=>Txt.contains LETS ⟨#[c]⟩).all λb=>b)=true:=h3;rw [h3'];refine W.DG (W.stN ?_);refine W.stC (W.sIf (W.xA rfl (W.lo rfl (W.TB rfl rfl (W.iA rfl (W.iA rfl (W.inT oA (b:=decide ("."=x) || (decide (".."=x) || false)) rfl ?_)))))));cases h4:(decide ("."=x) || (decide (".."=x) || false)) with
     | false=>exact W.stN (W.stN (q _ (hp.trans (Pre.app _ _)) (by unfold MA;rw [h1,h2,h3,h4];rfl)))
     | true=>exact W.stC (W.lC (C:=99) (by rfl) rfl (by rfl) (W.GA (W.iA rfl (W.lo rfl (W.lH (aE (cY hl 9) (by decide)) (e _ (hp.trans (Pre.app _ _)) (by unfold MA;rw [h1,h2,h3,h4];rfl)))))))
end
end
section
theorem vA{y:Str}{u:V}{l:List (Str×V)}(h:y≠x)(e:l.lookup y=some u):(putA x v l).lookup y=some u:=by rw [XE,aJ h];exact e
theorem TA{l:List (Str×V)}:(putA x v l).lookup x=some v:=by rw [XE,aN rfl]
abbrev has(l:List (Str×V))(x:Str)(v:V):Prop:=l.lookup x=some v
noncomputable def wB(p:Str):List Str:=if p="" then [] else Txt.split p "/"
def Closed(ns:List Nd):Prop:=∀ n∈ns,∀ e∈n.kQ,(ndAt ns e.2).isSome=true
theorem CE{c:Int}:∀ {l:List (Str×Int)},l.lookup x=some c->(x,c)∈l:=by
 intro l
 induction l with
 | nil=>intro h;cases h
 | cons z0 r ih=>
  intro h;obtain ⟨y,u⟩:=z0;rw [bQ] at h;split at h
  ·rename_i e;cases h;have:x=y:=by simpa using e
   subst this;exact .head _
  ·exact .tail _ (ih h)
theorem Closed.kid(C:Closed ns){n:Nd}(hn:n∈ns){c:Int}(h:n.kQ.lookup x=some c):∃ m,ndAt ns c=some m:=eI.mp (C n hn _ (CE h))
noncomputable def VC(ns:List Nd):Int->List Str->Option Int
 | p,[]=>some p
 | p,x::r=>match (ndAt ns p).bind λn=>n.kQ.lookup x with
  | some c=>VC ns c r
  | none=>none
theorem NC{c:Int}{m:Nd}{r:List Str}(h:ndAt ns c=some m):VC ns c (x::r)=match m.kQ.lookup x with
  | some c2=>VC ns c2 r
  | none=>none:=by
 show (match (ndAt ns c).bind _ with | some c=>VC ns c r | none=>none)=_;rw [h];rfl
section
variable {P:Prg} {s:S} {J:Ev}
theorem W.RR{H:List O}{L:List (Str×V)}{y:Str}(hz:0 < y.length/\x.length<=100000)(q:Q (.ref H.length) ⟨H++ [.list ((Txt.split x y).map V.str)],L⟩):W P (λZ=>lB "str.split" [.str x,.str y]) Q E ⟨H,L⟩:=W.AA (aF hz) (W.bind (W.alloc (W.pure q)))
end
section
variable {A:Adr} {hY:Int} {hZ zaps:List (V×V)}
theorem mI(R:Rep ⟨H0,L0⟩ A hY ns hZ zaps){p:Int}{n:Nd}(hp:ndAt ns p=some n)(hz:x.cps.size<=1000)(q:∀ h,Pre H0 h->MA x=true->n.kQ.lookup x=none->Q .none {h:=h,l:=L0})
  (e1:∀ h,Pre H0 h->MA x=false->E 99 {h:=h,l:=L0}) (e2:∀ h c,Pre H0 h->MA x=true->n.kQ.lookup x=some c->E 63 {h:=h,l:=L0}):
  W (pg w) (λF=>F.call (.glob 339) [.ref A.b,.int p,.str x] (d+5)) Q E ⟨H0,L0⟩:=by
 have hl:x.length<=1000:=hz;refine W.f (P:=pg w) rfl ?_;intro P J J' E' L';refine W.stC (W.iB rfl (W.cG (by rfl) (W.la rfl (W.en rfl (HM hz (λh iZ hok=>?_) λh iZ hok=>e1 h iZ hok)))));refine W.stC (W.sIf (W.xA rfl (W.cG (by rfl) (W.la rfl (W.la rfl (W.la rfl (W.en rfl ?_)))))));refine jG (R.on iZ _) hp λh2 hpre2=>W.iA rfl ?_;unfold kidV;cases hk:n.kQ.lookup x with
 | some c=>
  exact W.jA (λZ=>rfl) (W.stC (W.lC (C:=63) (by rfl) rfl (by rfl) (W.GA (W.iA rfl (W.lo rfl (W.lH (aE (cY hz 22) (by decide)) (e2 h2 c (iZ.trans hpre2) hok hk)))))))
 | none=>exact W.jA (λZ=>rfl) (W.stN (W.stN (q h2 (iZ.trans hpre2) hok hk)))
theorem AO{p:Str}(hz:p.length<=90000)(q:∀ h r,Pre H0 h->H0.length<=r->h[r]? =some (.list ((wB p).map V.str))->Q (.ref r) {h:=h,l:=L0}):
  W (pg w) (λF=>F.call (.glob 354) [.str p] (d+1)) Q E ⟨H0,L0⟩:=by
 refine W.f (P:=pg w) rfl ?_;intro P J J' E' L';refine W.stC (W.pA (W.ZO (W.xA rfl (W.lo rfl (W.iA rfl (W.jA (a:=decide (p="")) (λZ=>rfl) ?_))))));by_cases h:p=""
 ·subst h;exact W.list rfl rfl (q _ _ (Pre.app _ _) (aY _) oA)
 ·rw [bE h];refine W.KA rfl rfl rfl (W.lo rfl (W.jA (λZ=>rfl) (W.lk rfl (W.en rfl (W.bi (W.RR ⟨by decide,aE hz (by decide)⟩ (q _ _ (Pre.app _ _) (aY _) (by unfold wB;rw [aJ h];exact oA))))))))
theorem mG(R:Rep ⟨H0,L0⟩ A hY ns hZ zaps)(C:Closed ns){m0:Nd}(h4:ndAt ns 4=some m0){path:Str}(hz:path.length<=90000)(q:∀ h c,Pre H0 h->VC ns 4 (wB path)=some c->Q (.int c) {h:=h,l:=L0})
  (e1:∀ h,Pre H0 h->VC ns 4 (wB path)=none->E 51 {h:=h,l:=L0}):
  W (pg w) (λF=>F.call (.glob 361) [.ref A.b,.str path] (d+5)) Q E ⟨H0,L0⟩:=by
 refine W.f (P:=pg w) rfl ?_;intro P J J' E' L';refine W.stC (W.sA (W.cG (by rfl) (W.la rfl (W.en rfl (zG (R.loc _) λh1 p1=>W.asN rfl ?_)))));refine W.stC (W.oH rfl (W.cG (by rfl) (W.la rfl (W.en rfl (AO hz λh2 r p2 hr hl=>W.YI hl ?_)))));have hlen:(h2++ [O.itL r 0]).length=h2.length+1:=by exact bA
 have Ba:Pre H0 h2:=p1.trans p2;refine W.PT (vs:=(wB path).map V.str) (it:=h2.length) (l:=r) (I:=λi s'=>Pre h2 s'.h/\s'.h[h2.length]? =some (.itL r i)/\has s'.l "base" (.ref A.b)/\has s'.l "path" (.str path)/\∃ c m,has s'.l "place" (.int c)/\ndAt ns c=some m/\VC ns 4 (wB path)=VC ns c ((wB path).drop i)) rfl (λi s' h=>⟨h.2.1,h.1.get hl⟩) ?_ ?_ ((wB path).map V.str).length 0 _ (cW _) ?_
 ·intro i v s' ii hv;obtain x05|i1|i2|i3|i4|Do:=ii;obtain x23|c|m|i5|i6|i7:=Do;have Cn:∃ x,(wB path)[i]? =some x/\v= .str x:=by
   rw [bS] at hv;cases e:(wB path)[i]? with
   | none=>rw [e] at hv;cases hv
   | some x=>rw [e] at hv;cases hv;exact i12 x rfl rfl
  obtain x12|x|hx|rfl:=Cn;have yZ:(wB path).drop i=x::(wB path).drop (i+1):=by
   have hlt:=(aQ.mp hx).1;rw [gG hlt];congr 1;exact (aQ.mp hx).2
  have i1':=i1.set (n:=h2.length) (o:=O.itL r (i+1)) (aY _);refine W.stC (W.sA (W.cG (by rfl) (W.la (vA (by decide) i3) (W.la (vA (by decide) i5) (W.la TA (W.en rfl ?_))))));refine jG (R.on (Ba.trans i1') _) i6 λh3 p3=>W.asN rfl ?_;rw [yZ,NC i6] at i7;refine W.stC (W.sIf (W.xA rfl (W.lo TA (W.iA rfl ?_))));unfold kidV;cases hk:m.kQ.lookup x with
  | none=>
   rw [hk] at i7;exact W.jA (λZ=>rfl) (W.stC (W.lC (C:=51) (by rfl) rfl (by rfl) (W.GA (W.iA rfl (W.lo (vA (by decide) (vA (by decide) i4)) (W.lH (aE (cY hz 17) (by decide)) (e1 _ (Ba.trans (i1'.trans p3)) i7)))))))
  | some c2=>
   rw [hk] at i7;obtain x11|m2|hm2:=C.kid (wA i6).1 hk;refine W.jA (λZ=>rfl) (W.stN (W.stN (i05 (i1'.trans p3) (p3.get (RA i2)) ?_ ?_ ⟨c2,m2,TA,hm2,i7⟩)))
   ·exact vA (by decide) (vA (by decide) i3)
   ·exact vA (by decide) (vA (by decide) i4)
 ·intro s' ii;obtain x05|i1|i2|i3|i4|Dn:=ii;obtain x23|c|m|i5|i6|i7:=Dn;rw [aO,List.drop_length] at i7;exact W.stC (W.pA (W.lo i5 (q _ c (Ba.trans (i1.set (aY _))) i7)))
 ·exact i05 (Pre.app _ _) oA rfl rfl ⟨4,m0,rfl,h4,rfl⟩
end
end
section
section
variable {P:Prg} {s:S} {J:Ev}
theorem W.whI{t:Expr}{b:List Stmt}{Q:Flow->S->Prop}(I:Nat->S->Prop)(step:∀ k s,I k s->W P (λF=>F.tr t J) (λc s1=>if c=true then W P (λF=>tB P.K F b J) (λf s2=>match f with | .next=>∃ k',k' < k/\I k' s2 | .ret v=>Q (.ret v) s2) E s1 else Q .next s1) E s):
  ∀ k s,I k s->W P (λF=>F.wh t b J) Q E s:=by
 intro k
 induction k using Nat.strongRecOn with
 | ind k ih=>
  intro s h;refine W.whT ((step k s h).post λc s1 h1=>?_)
  induction c with
  | false=>exact h1
  | true=>
   refine W.post h1 λf s2 h2=>?_
   induction f with
   | next=>obtain x12|k'|hk|h3:=h2;exact ih k' hk s2 h3
   | ret v=>exact h2
theorem W.yI{Q:Unit->S->Prop}(q:Q () s):W P (λZ=>LD J [] []) Q E s:=W.pure q
theorem W.kD{H:List O}{L:List (Str×V)}{xs:List Str}{Q:Unit->S->Prop}(hx:J.scope.names.lookup x=some .local)(h:W P (λZ=>LD J xs vs) Q E ⟨H,putA x v L⟩):W P (λZ=>LD J (x::xs) (v::vs)) Q E ⟨H,L⟩:=
 W.bind (W.ret (λF=>by show NB J x v ⟨H,L⟩=_;unfold NB;rw [hx];rfl) h)
end
noncomputable def sC(ns:List Nd):Nat->Int->Prop
 | 0,p=>p=0
 | k+1,p=>p=0\/∃ n,ndAt ns p=some n/\sC ns k n.par
noncomputable def isIn(ns:List Nd):Nat->Int->Int->Bool
 | 0,_,_=>false
 | k+1,p,o=>if p=0 then false else if p=o then true else match ndAt ns p with
  | some n=>isIn ns k n.par o
  | none=>false
noncomputable def XC(m:Nd)(p:Int):Str:=((BA m).find? λx=>decide (m.kQ.lookup x=some p)).getD ""
section
variable {A:Adr} {hY:Int} {hZ zaps:List (V×V)}
theorem AH(R:Rep ⟨H0,L0⟩ A hY ns hZ zaps){p o:Int}(hu:sC ns k p)(q:∀ h,Pre H0 h->Q (.bool (isIn ns k p o)) {h:=h,l:=L0}):
  W (pg w) (λF=>F.call (.glob 382) [.ref A.b,.int p,.int o] (d+4)) Q E ⟨H0,L0⟩:=by
 refine W.f (P:=pg w) rfl ?_;intro P J J' E' L';refine W.stC (W.mF (W.whI (λj s'=>Pre H0 s'.h/\has s'.l "base" (.ref A.b)/\has s'.l "other" (.int o)/\∃ c,has s'.l "place" (.int c)/\sC ns j c/\isIn ns k p o=isIn ns j c o) ?_ k _ (i04 (Pre.refl _) rfl rfl ⟨p,rfl,hu,rfl⟩)));intro j s' ii;obtain x04|i1|i2|i3|Dn:=ii;obtain x13|c|i4|i5|i6:=Dn;refine W.xA rfl (W.lo i4 (W.iA rfl (W.jA (a:=!decide (c=0)) (λZ=>rfl) ?_)));by_cases hc:c=0
 ·rw [aF hc];refine W.stC (W.pA (W.iA rfl ?_));have:isIn ns k p o=false:=by
   rw [i6]
   induction j using nCq with
   | zero=>rfl
   | succ j=>exact aN hc
  rw [this] at q;exact q _ i1
 ·rw [bE hc]
  induction j using nCq with
  | zero=>exact aS i5 hc
  | succ j=>
   rw [show isIn ns (j+1) c o=if c=0 then false else if c=o then true else match ndAt ns c with | some n=>isIn ns j n.par o | none=>false from rfl,aJ hc] at i6;refine W.stC (W.sIf (W.xA rfl (W.lo i4 (W.lo i3 (W.jA (a:=decide (c=o)) (λZ=>rfl) ?_)))));by_cases ho:c=o
   ·rw [aF ho];rw [aN ho] at i6;refine W.stC (W.pA (W.iA rfl ?_));rw [show isIn ns k p o=true from i6] at q;exact q _ i1
   ·rw [bE ho];rw [aJ ho] at i6;rcases i5 with i5 | ⟨n,i5,i7⟩
    ·exact aS i5 hc
    rw [i5] at i6;refine W.stN (W.stC (W.sA (W.LA rfl (W.cG (by rfl) (W.la i2 (W.la i4 (W.en rfl ?_)))))));refine (R.on i1 _).load i5 λh2 i di hp Z Z An=>?_;obtain x11|k2|Cx:=An.own;refine W.rA An.inst Cx (gd _ (by decide)) rfl rfl (W.asN rfl (W.stN (i15 j (dR j) (i1.trans hp) (vA (by decide) i2) (vA (by decide) i3) ⟨n.par,TA,i7,i6⟩)))
theorem JH(R:Rep ⟨H0,L0⟩ A hY ns hZ zaps){pp p:Int}{m:Nd}(hp:ndAt ns pp=some m){x0:Str}(hx0:((BA m).find? λx=>decide (m.kQ.lookup x=some p))=some x0)(q:∀ h,Pre H0 h->Q (.str (XC m p)) {h:=h,l:=L0}):
  W (pg w) (λF=>F.call (.glob 368) [.ref A.b,.int pp,.int p] (d+4)) Q E ⟨H0,L0⟩:=by
 obtain x11|k1|own:=R.base.own;obtain x02|hm|u_:=wA hp;refine W.f (P:=pg w) rfl ?_;intro P J J' E' L';refine W.stC (W.sA (W.LA rfl (W.cG (by rfl) (W.la rfl (W.la rfl (W.en rfl ?_))))));refine (R.loc _).load hp λh1 i di p1 Z Z An=>?_;obtain x11|k2|Cx:=An.own;refine W.rA An.inst Cx (gd _ (by decide)) rfl rfl (W.asN rfl ?_);have R1:=R.on p1;obtain x11|k3|hk:=(R1 []).kQ m hm;have hsv:xD ((HD m).map (·.1))=some ((BA m).map V.str):=by
  have e:=PF (m.kQ.map (·.1));rw [aP] at e;rw [show (HD m).map (·.1)=m.kQ.map (V.str∘λx=>x.1) from by unfold HD;rw [aP];rfl];exact e
 refine W.stC (W.oH rfl (W.KA rfl rfl rfl (W.lo rfl (W.YA (R1 []).base.inst (p1.get own) OJ rfl rfl (W.la rfl (W.em (by rfl) ?_))))));refine nM (λZ=>rfl) (λZ=>rfl) (R1 _).base (R.zkids m hm) hk (by simpa using (R.kok m hm).1) hsv (W.YI oA ?_);refine genE (h1++ [O.list ((BA m).map V.str)]) ?_;intro h2 hh2;have hl:h2[h1.length]? =some (.list ((BA m).map V.str)):=by subst hh2;exact oA
 have p2:Pre h1 h2:=by subst hh2;exact Pre.app _ _
 have Ba:Pre H0 h2:=p1.trans p2;refine W.PT (vs:=(BA m).map V.str) (it:=h2.length) (l:=h1.length) (I:=λi s'=>Pre h2 s'.h/\s'.h[h2.length]? =some (.itL h1.length i)/\has s'.l "base" (.ref A.b)/\has s'.l "place" (.int p)/\has s'.l "children" (.int (m.pQ - 2))/\(((BA m).drop i).find? λx=>decide (m.kQ.lookup x=some p))=some x0) rfl (λi s' h=>⟨h.2.1,h.1.get hl⟩) ?_ ?_ ((BA m).map V.str).length 0 _ (cW _) ?_
 ·intro i v s' ii hv;obtain x06|i1|i2|i3|i4|i5|i6:=ii;have Cn:∃ x,(BA m)[i]? =some x/\v= .str x:=by
   rw [bS] at hv;cases e:(BA m)[i]? with
   | none=>rw [e] at hv;cases hv
   | some x=>rw [e] at hv;cases hv;exact i12 x rfl rfl
  obtain x12|x|hx|rfl:=Cn;have yZ:(BA m).drop i=x::(BA m).drop (i+1):=by
   have hlt:=(aQ.mp hx).1;rw [gG hlt];congr 1;exact (aQ.mp hx).2
  have i1':=i1.set (n:=h2.length) (o:=O.itL h1.length (i+1)) (aY _);have R3:=R.on (Ba.trans i1');obtain x11|k4|own4:=(R3 []).base.own;obtain x11|k5|hk5:=(R3 []).kQ m hm;rw [yZ,fT] at i6;refine W.stC (W.sIf (W.xA rfl (W.KA rfl rfl rfl (W.lo (vA (by decide) i3) (W.YA (R3 []).base.inst own4 yN rfl rfl (W.la (vA (by decide) i5) (W.la TA (W.em (by rfl) ?_))))))));refine HS (λZ=>rfl) (λZ=>rfl) (R3 _).base (R.zkids m hm) hk5 (KJ x m) (W.lo (vA (by decide) i4) ?_);rw [wN];unfold kidV;by_cases hmt:m.kQ.lookup x=some p
  ·rw [hmt];rw [aF hmt] at i6;have i6:x=x0:=Option.some.inj i6;subst i6;refine W.jA (a:=decide (p=p)) (λZ=>rfl) ?_;rw [aF rfl];refine W.stC (W.pA (W.lo TA ?_));have hn:XC m p=x:=by unfold XC;rw [hx0];rfl
   rw [<-hn];exact q _ (Ba.trans i1')
  ·rw [bE hmt] at i6;have hb:cmpM .Eq (match m.kQ.lookup x with | some c=>V.int c | none=> .none) (.int p)=Pure.pure false:=by
    cases e:m.kQ.lookup x with
    | none=>rfl
    | some c=>
     have h9:cmpM .Eq (V.int c) (.int p)=Pure.pure (decide (c=p)):=rfl;dsimp only;rw [h9,bE (λz=>hmt (by rw [e,z]))]
   refine W.jA (a:=false) (λZ=>hb) (W.stN (W.stN (i06 i1' (RA i2) (vA (by decide) i3) (vA (by decide) i4) (vA (by decide) i5) i6)))
 ·intro s' ii;obtain x06|i1|i2|i3|i4|i5|i6:=ii;rw [aO,List.drop_length] at i6;cases i6
 ·exact i06 (Pre.app _ _) oA rfl rfl rfl hx0
end
end
section
section
variable {P:Prg} {s:S} {J:Ev}
theorem W.lP{xs:List Str}(hn:s.h[n]? =some (.list (xs.map V.str)))(hz:x.length<=16/\(xs.map (·.length)).sum+xs.length<=1048576)(q:Q (.str (Txt.join x xs)) s):W P (λZ=>lB "str.join" [.str x,.ref n]) Q E s:=
 W.bind (W.zA hn (W.pure (W.opt (FR xs) (W.AA (aF hz) (W.pure q)))))
theorem W.mH{x y:Nat}{u:List V}{Q:Bool->S->Prop}(hx:s.h[x]? =some (.list u))(hy:s.h[y]? =some (.list []))(q:Q (!u.isEmpty) s):W P (λZ=>cmpM .NotEq (.ref x) (.ref y)) Q E s:=by
 refine W.bind (W.zA hx (W.zA hy ?_))
 induction u using lCq with
 | nil=>exact W.jA (a:=true) (λZ=>rfl) (W.pure q)
 | cons a r=>
  refine W.eq (m:=λZ=>Pure.pure false) (W.pure (W.pure q)) λF=>?_;rfl
end
noncomputable def QH(ns:List Nd):Nat->Int->List Str->List Str
 | 0,_,acc=>acc
 | k+1,p,acc=>match ndAt ns p with
  | some n=>if n.par=0 then acc else match ndAt ns n.par with
   | some m=>QH ns k n.par (XC m p::acc)
   | none=>acc
  | none=>acc
def PV(ns:List Nd):Prop:=∀ n∈ns,n.par≠0->∃ m,ndAt ns n.par=some m/\∃ x0,((BA m).find? λx=>decide (m.kQ.lookup x=some n.pQ))=some x0
noncomputable def kidPlaces(n:Nd):List Int:=(BA n).map λx=>(n.kQ.lookup x).getD 0
noncomputable def dfs(ns:List Nd):Nat->List Int->List Int
 | 0,_=> []
 | _+1,[]=> []
 | k+1,p::r=>match ndAt ns p with
  | some n=>p::dfs ns k (kidPlaces n++r)
  | none=> []
noncomputable def qL(ns:List Nd):Nat->List Int->Prop
 | 0,ws=>ws= []
 | _+1,[]=>True
 | k+1,p::r=>∃ n,ndAt ns p=some n/\(kidPlaces n++r).length<=1000/\qL ns k (kidPlaces n++r)
theorem zH(lt:α->α->Bool)(x:α):∀ (l:List α) (y:α),y∈JE lt x l ↔ y=x\/y∈l:=by
 intro l
 induction l with
 | nil=>intro y;rw [OL];simp
 | cons z r ih=>
  intro y;rw [pG];split
  ·rw [aZ,ih y,aZ];constructor
   ·rintro (h | h | h) <;> simp [h]
   ·rintro (h | h | h) <;> simp [h]
  ·simp
theorem pB(lt:α->α->Bool):∀ (l:List α) (y:α),y∈SA lt l ↔ y∈l:=by
 intro l
 induction l with
 | nil=>intro y;exact Iff.rfl
 | cons x r ih=>intro y;rw [HE,zH,ih y,aZ]
theorem xQ(lt:α->α->Bool)(x:α):∀ (l:List α),(JE lt x l).length=l.length+1:=by
 intro l
 induction l with
 | nil=>exact rfl
 | cons z r ih=>
  rw [pG];split
  ·simp [ih]
  ·exact bU ..
theorem AG(lt:α->α->Bool):∀ (l:List α),(SA lt l).length=l.length:=by
 intro l
 induction l with
 | nil=>exact rfl
 | cons x r ih=>rw [HE,xQ,ih];rfl
theorem EH:∀ {l:List (Str×Int)},x∈l.map (·.1)->∃ c,l.lookup x=some c:=by
 intro l
 induction l with
 | nil=>intro h;cases h
 | cons z0 r ih=>
  intro h;obtain ⟨y,u⟩:=z0;rw [bQ];by_cases e:x=y
  ·subst e;simp
  ·have e2:(x==y)=false:=by simpa using e
   rw [e2];refine ih ?_;rcases aZ.mp h with h | h
   ·exact aS h e
   ·exact h
theorem PS{n:Nd}(h:x∈BA n):∃ c,n.kQ.lookup x=some c:=EH ((pB jB _ x).mp h)
theorem rX(n:Nd):(BA n).map (kidV n)=(kidPlaces n).map V.int:=by
 unfold kidPlaces;rw [aP];refine bZ λx hx=>?_;obtain x11|c|hc:=PS hx;show _=V.int ((n.kQ.lookup x).getD 0);unfold kidV;rw [hc];rfl
section
variable {A:Adr} {hY:Int} {hZ zaps:List (V×V)}
theorem WQ(R:Rep ⟨H0,L0⟩ A hY ns hZ zaps)(Nm:PV ns){p:Int}{n0:Nd}(hp:ndAt ns p=some n0)(hu:sC ns k p)(hj:((QH ns k p []).map (·.length)).sum+(QH ns k p []).length<=1048576)(hk:k<=1000)(q:∀ h,Pre H0 h->Q (.str (Txt.join "/" (QH ns k p []))) {h:=h,l:=L0}):
  W (pg w) (λF=>F.call (.glob 375) [.ref A.b,.int p] (d+5)) Q E ⟨H0,L0⟩:=by
 refine W.f (P:=pg w) rfl ?_;intro P J J' E' L';refine W.stC (W.WF (names:= ["names","parent"]) rfl rfl (W.TB rfl rfl (W.list rfl rfl (W.LA rfl (W.cG (by rfl) (W.la rfl (W.la rfl (W.en rfl ?_))))))));refine (R.on (Pre.app H0 [O.list []]) _).load hp λh1 i di p1 Z Z An=>?_;obtain x11|k2|Cx:=An.own;refine W.rA An.inst Cx (gd _ (by decide)) rfl rfl (i13 _ (YB oA) rfl (W.kD rfl (W.kD rfl (W.yI ?_))));refine W.stC (W.mF (W.whI (λj s'=>Pre H0 s'.h/\has s'.l "base" (.ref A.b)/\has s'.l "names" (.ref H0.length)/\∃ c n acc,has s'.l "place" (.int c)/\has s'.l "parent" (.int n.par)/\ndAt ns c=some n/\sC ns j c/\j<=k/\s'.h[H0.length]? =some (.list (acc.map V.str))/\acc.length+j<=k/\QH ns k p []=QH ns j c acc) ?_ k _ (i04 ((Pre.app _ _).trans (p1.trans (Pre.app _ _)):Pre H0 (h1++ [O.tup [.ref H0.length,.int n0.par]])) rfl rfl ⟨p,n0,[],rfl,rfl,hp,hu,aY _,(lA (p1.get oA):(h1++ [O.tup [.ref H0.length,.int n0.par]])[H0.length]? =some (.list (([]:List Str).map V.str))),by exact bV (cW _),rfl⟩)));intro j s' ii;obtain x04|i1|i2|i3|Dq:=ii;obtain x33|c|n|acc|i4|i5|Ds:=Dq;obtain x06|i6|i7|i8|i9|i10|i11:=Ds;obtain x02|hn|hcp:=wA i6;have hc0:c≠0:=nn0 (hcp▸(R.places n hn).2.1);refine W.xA rfl (W.lo i5 (W.iA rfl (W.jA (a:=!decide (n.par=0)) (λZ=>rfl) ?_)))
 induction j using nCq with
 | zero=>exact aS i7 hc0
 | succ j=>
  have i7:∃ n',ndAt ns c=some n'/\sC ns j n'.par:=by
   rcases i7 with i7 | i7
   ·exact aS i7 hc0
   ·exact i7
  obtain x12|n'|e1|i7:=i7;rw [i6] at e1;cases e1;have un:QH ns (j+1) c acc=if n.par=0 then acc else match ndAt ns n.par with
    | some m=>QH ns j n.par (XC m c::acc)
    | none=>acc:=by
   show (match ndAt ns c with | some n=>_ | none=>acc)=_;rw [i6]
  rw [un] at i11;by_cases hz:n.par=0
  ·rw [aF hz];rw [aN hz] at i11;refine W.stC (W.pA (W.KA rfl rfl rfl (W.iA rfl (W.jA (λZ=>rfl) (W.la i3 (W.en rfl (W.bi (W.lP i9 ⟨by decide,by rw [<-i11];exact hj⟩ ?_))))))));rw [<-i11];exact q _ i1
  ·rw [bE hz];rw [aJ hz] at i11;obtain x12|m|hm|Dp:=Nm n hn hz;obtain x11|x0|hx0:=Dp;rw [hcp] at hx0;rw [hm] at i11;refine W.stC (W.iB rfl (W.KA rfl rfl rfl (W.lo i3 (W.jP i9 (W.iA rfl (W.cG (by rfl) (W.la i2 (W.la i5 (W.la i4 (W.en rfl ?_))))))))));refine JH (R.on i1 _) hm hx0 λh3 p3=>⟨rfl,W.bi (W.iP (p3.get i9) (aF (by rw [aO];exact aT (n6 i10) (aE hk (by decide)))) ?_)⟩;have p4:Pre H0 (h3.set H0.length (.list (.str (XC m c)::acc.map V.str))):=(i1.trans p3).set (aY _);refine W.stC (W.WF (names:= ["place","parent"]) rfl rfl (W.TB rfl rfl (W.lo i5 (W.LA rfl (W.cG (by rfl) (W.la i2 (W.la i5 (W.en rfl ?_))))))));refine (R.on p4 _).load hm λh5 i di p5 Z Z An=>?_;obtain x11|k2|Cx:=An.own;refine W.rA An.inst Cx (gd _ (by decide)) rfl rfl (i13 _ (YB oA) rfl (W.kD rfl (W.kD rfl (W.yI (W.stN (i15 j (dR j) (p4.trans (p5.trans (Pre.app _ _))) ?_ ?_ ⟨n.par,m,XC m c::acc,TA,vA (by decide) TA,hm,i7,eU i8,lA (p5.get (RA (p3.get i9))),n5 i10,i11⟩))))))
   ·exact vA (by decide) (vA (by decide) i2)
   ·exact vA (by decide) (vA (by decide) i3)
theorem IN(R:Rep ⟨H0,L0⟩ A hY ns hZ zaps)(hu:qL ns k [4])(hk:k<=1000)(q:∀ h r,Pre H0 h->h[r]? =some (.list ((dfs ns k [4]).map V.int))->Q (.ref r) {h:=h,l:=L0}):
  W (pg w) (λF=>F.call (.glob 415) [.ref A.b] (d+5)) Q E ⟨H0,L0⟩:=by
 refine W.fnK (P:=pg w) rfl (hK:=by rfl) (hb:=rfl) (hf:=rfl) (hok:=by rfl) (hs:=rfl) (lq:=none) (hq:=by rfl) (hbs:=rfl) (hc:=rfl) ?_;have Dg:(H0++ [O.cell none]).length=H0.length+1:=bA;rw [Dg];refine genE (H0.length) ?_;intro m hm;intro P J J' E';dsimp only;refine W.MM (w:=none) rfl rfl (by subst hm;exact lA oA) (W.LM ?_);refine W.heap (h':=H0++ [.cell (some (.ref A.b)),.cell none]) (by subst hm;simp) ?_;dsimp only;have c1:(H0++ [O.cell (some (.ref A.b)),.cell none])[m]? =some (.cell (some (.ref A.b))):=by subst hm;exact gx (k:=0) rfl
 have c2:(H0++ [O.cell (some (.ref A.b)),.cell none])[m+1]? =some (.cell none):=by subst hm;exact gx (k:=1) rfl
 refine W.stC (W.WF (names:= ["found","waiting"]) rfl rfl (W.TB rfl rfl (W.list rfl rfl (W.list rfl rfl (W.cG (by rfl) (W.li (lA c1) (W.en rfl ?_)))))));refine zG (R.on ((Pre.app H0 _).trans (Pre.app _ _)) _) λh1 p1=>i13 _ (YB oA) rfl (W.kD rfl (W.kD rfl (W.yI ?_)));have hb2:(H0++ [O.cell (some (.ref A.b)),.cell none]).length=m+2:=by subst hm;exact bA
 dsimp only;rw [hb2];refine genE (O.tup [V.ref (m+2),V.ref h1.length]) ?_;intro X hX;have pp:Pre (H0++ [O.cell (some (.ref A.b)),.cell none]++ [O.list []]) (h1++ [.list [.int 4]]++ [X]):=p1.trans ((Pre.app _ _).trans (Pre.app _ _));have l1:m+3<=h1.length:=by subst hm;have:=p1.len;rw [bA,bA] at this;exact this
 have z3:(h1++ [O.list [V.int 4]]++ [X])[m+2]? =some (.list []):=pp.get (by rw [<-hb2];exact oA);refine W.stC (W.mF (W.whI (λj s'=>Pre H0 s'.h/\s'.h[m]? =some (.cell (some (.ref A.b)))/\(∃ c,s'.h[m+1]? =some (.cell c))/\has s'.l "found" (.ref (m+2))/\∃ fs ws r,has s'.l "waiting" (.ref r)/\m+3<=r/\s'.h[m+2]? =some (.list (fs.map V.int))/\s'.h[r]? =some (.list (ws.map V.int))/\qL ns j ws/\ws.length<=1000/\fs.length+j<=k/\dfs ns k [4]=fs++dfs ns j ws) ?_ k _ (i05 (((Pre.app _ _).trans (Pre.app _ _)).trans pp:Pre H0 (h1++ [O.list [V.int 4]]++ [X])) (pp.get (lA c1):(h1++ [O.list [V.int 4]]++ [X])[m]? =some (.cell (some (.ref A.b)))) ⟨_,(pp.get (lA c2):(h1++ [O.list [V.int 4]]++ [X])[m+1]? =some (.cell none))⟩ rfl ⟨[],[4],h1.length,rfl,l1,z3,(lA oA:(h1++ [O.list [V.int 4]]++ [X])[h1.length]? =some (.list [.int 4])),hu,by decide,by exact bV (cW _),rfl⟩)));intro j s' ii;obtain x05|i1|i2|Dn|i4|Do:=ii;obtain x11|c0|i3:=Dn;obtain x33|fs|ws|r|i5|i6|Dr:=Do;obtain x06|i7|i8|i9|i10|i11|i12:=Dr;refine W.xA rfl (W.lo i5 (W.list rfl rfl (W.mH (lA i8) oA ?_)))
 induction ws using lCq with
 | nil=>
  refine W.stC (W.pA (W.lo i4 (q _ _ (i1.trans (Pre.app _ _)) ?_)));have:dfs ns j []= []:=by induction j using nCq <;> rfl
  rw [i12,this,eW];exact lA i7
 | cons p ws=>
  induction j using nCq with
  | zero=>cases i9
  | succ j=>
   obtain x13|n|hn|hlen|i9:=i9;have un:dfs ns (j+1) (p::ws)=p::dfs ns j (kidPlaces n++ws):=by
    show (match ndAt ns p with | some n=>_ | none=> [])=_;rw [hn]
   rw [un] at i12;have hr:r < s'.h.length:=CA i8;refine W.stC (W.sA (W.KA rfl rfl rfl (W.lo i5 (W.ZV (lA i8) (W.lk rfl (W.en rfl (W.bi (W.YV (v:= .int p) (vs:=ws.map V.int) (lA i8) (aF (by rw [aO];exact aE (eU i10) (by decide))) ?_))))))));refine W.asC (w:=c0) rfl rfl (qA (qk i6 (by decide)) (lA i3)) ?_;refine genE (((s'.h++ [O.list []]).set r (.list (ws.map V.int))).set (m+1) (.cell (some (.int p)))) ?_;intro h2 hh2;have p2:Pre H0 h2:=by subst hh2;exact ((i1.trans (Pre.app _ _)).set (aE (qm hm) i6)).set (qm hm)
   have y1:h2[m]? =some (.cell (some (.ref A.b))):=by subst hh2;exact qA (cK m) (qA (qk (k:=0) i6 (by decide)) (lA i2))
   have y2:h2[m+1]? =some (.cell (some (.int p))):=by subst hh2;exact RA (qA (qk i6 (by decide)) (lA i3))
   have y3:h2[m+2]? =some (.list (fs.map V.int)):=by subst hh2;exact qA (cK _).symm (qA (qk i6 (by decide)) (lA i7))
   have y4:h2[r]? =some (.list (ws.map V.int)):=by subst hh2;exact qA (qk i6 (by decide)).symm (RA (lA i8))
   refine W.stC (W.iB rfl (W.KA rfl rfl rfl (W.lo i4 (W.iK y3 (W.li y2 (W.en rfl (W.bi (W.TD y3 (aF (by rw [aO];exact aT (n6 i11) (aE hk (by decide)))) ?_))))))));refine genE (h2.set (m+2) (.list (fs.map V.int++ [V.int p]))) ?_;intro h3 hh3;have p3:Pre H0 h3:=by subst hh3;exact p2.set (qm hm)
   have x1:h3[m]? =some (.cell (some (.ref A.b))):=by subst hh3;exact qA (aV (eP (by decide))) y1
   have x2:h3[m+1]? =some (.cell (some (.int p))):=by subst hh3;exact qA (cK _) y2
   have x3:h3[m+2]? =some (.list (fs.map V.int++ [.int p])):=by subst hh3;exact RA y3
   have x4:h3[r]? =some (.list (ws.map V.int)):=by subst hh3;exact qA (qk i6 (by decide)).symm y4
   have hkn:(BA n).length<=1000:=by
    unfold BA;rw [AG,aO];exact aE (cC (R.kok n (wA hn).1).1) (by decide)
   refine W.stC (W.sA (W.GA (W.sL (cells:=_) rfl rfl rfl (W.cG (by rfl) (W.li x1 (W.li x2 (W.en rfl ?_)))))));refine sF (R.on p3 _) hn λh4 r4 p4 hr4 hl4=>i46 r4 ((BA n).map V.str) (λv=>match v with | .str x=>kidV n x | v=>v) (λZ=>true) rfl hl4 (by rw [aO];exact hkn) ?_ ?_ ?_
   ·intro v hv h lo hp hlo;exact W.WD (i03 rfl (Pre.refl _) rfl)
   ·intro v hv _ h lo hp hlo;obtain x12|x|hx|rfl:=aL.mp hv;refine W.cG (by rfl) (W.li (hp.get (p4.get x1)) (W.li (hp.get (p4.get x2)) (W.la hlo (W.en rfl ?_))));exact jG (R.on (p3.trans (p4.trans hp)) _) hn λh5 p5=>i03 rfl p5 rfl
   ·intro h acc hp ha jY;have e9:List.map (λv=>match v with | .str x=>kidV n x | v=>v) (List.filter (λZ=>true) ((BA n).map V.str))=(kidPlaces n).map V.int:=by
     rw [dT.mpr (λZ Z=>rfl),aP,<-rX];rfl
    rw [e9] at jY;refine W.lo i5 (W.UI jY (hp.get (p4.get x4)) ?_ (W.asN rfl (W.stN (i16 j (dR j) (p3.trans (p4.trans (hp.trans (Pre.app _ _)))) (lA (hp.get (p4.get x1))) ⟨_,lA (hp.get (p4.get x2))⟩ (vA (by decide) i4) ⟨fs++ [p],kidPlaces n++ws,_,TA,?_,?_,?_,i9,hlen,?_,?_⟩))))
    ·rw [aO,aO,<-bA];exact aE hlen (by decide)
    ·exact CA (hp.get (p4.get x3))
    ·rw [cJ];exact lA (hp.get (p4.get x3))
    ·rw [cJ];exact oA
    ·rw [bA];exact n5 i11
    ·rw [i12];simp
end
end
section
def Keep(F:List Nat)(h h':List O):Prop:=h.length<=h'.length/\∀ i o,h[i]? =some o->i∉F->h'[i]? =some o
theorem Keep.refl(F:List Nat)(h:List O):Keep F h h:=⟨aY _,λZ Z e Z=>e⟩
theorem Keep.of_pre{F:List Nat}{h':List O}(p:Pre h h'):Keep F h h':=⟨p.len,λZ Z e Z=>p.get e⟩
theorem Keep.trans{F:List Nat}{a b c:List O}(x:Keep F a b)(y:Keep F b c):Keep F a c:=⟨aE x.1 y.1,λi o e n=>y.2 i o (x.2 i o e n) n⟩
theorem Keep.trans'{F G:List Nat}{a b c:List O}(x:Keep F a b)(y:Keep G b c)(hG:∀ i∈G,i∈F\/a.length<=i):Keep F a c:=
 ⟨aE x.1 y.1,λi o e n=>y.2 i o (x.2 i o e n) λhi=>(hG i hi).elim n λh=>aS (CA e) (cB.mpr h)⟩
theorem Keep.sub{F G:List Nat}{a b:List O}(x:Keep F a b)(h:F.Sublist G):Keep G a b:=⟨x.1,λi o e n=>x.2 i o e λhi=>n (h.subset hi)⟩
theorem nin2{i a b:Nat}(h1:i≠a)(h2:i≠b):i∉ [a,b]:=λh=>by
 rcases aZ.mp h with h | h
 ·exact h1 h
 ·exact h2 (aH.mp h)
theorem nin3{i a b c:Nat}(h1:i≠a)(h2:i≠b)(h3:i≠c):i∉ [a,b,c]:=λh=>by
 rcases aZ.mp h with h | h
 ·exact h1 h
 ·exact nin2 h2 h3 h
theorem Keep.set{F:List Nat}{a b:List O}(x:Keep F a b)(h:n∈F\/a.length<=n):Keep F a (b.set n o):=
 ⟨by rw [gR];exact x.1,λi p e hi=>by
  have hne:n≠i:=by
   intro z;subst z;rcases h with h | h
   ·exact hi h
   ·exact aS (CA e) (cB.mpr h)
  exact qA hne (x.2 i p e hi)⟩
noncomputable def NA(ns:List Nd)(m:Nd):List Nd:=ns.map λn=>if n.pQ=m.pQ then m else n
theorem vB(n:Nd)(ns:List Nd)(p:Int):ndAt (n::ns) p=if n.pQ=p then some n else ndAt ns p:=by
 unfold ndAt;rw [fT];by_cases h:n.pQ=p
 ·rw [aF h,aN h]
 ·rw [bE h,aJ h]
theorem DB(ns:List Nd)(m:Nd)(p:Int):ndAt (NA ns m) p=if p=m.pQ then (ndAt ns p).map (λZ=>m) else ndAt ns p:=by
 induction ns with
 | nil=>unfold NA ndAt;simp
 | cons n r ih=>
  have e:NA (n::r) m=(if n.pQ=m.pQ then m else n)::NA r m:=rfl;rw [e,vB,vB,ih];by_cases h1:n.pQ=m.pQ
  ·rw [aN h1];by_cases h2:p=m.pQ
   ·subst h2;simp [h1]
   ·have h3:¬ m.pQ=p:=λz=>h2 z.symm;have h4:¬ n.pQ=p:=λz=>h3 (h1▸z);rw [aJ h2,aJ h2,aJ h3,aJ h4]
  ·rw [aJ h1];by_cases h2:p=m.pQ
   ·subst h2;rw [aJ h1,aN rfl,aJ h1,aN rfl]
   ·rw [aJ h2,aJ h2]
theorem nB{m n:Nd}(h:n∈NA ns m):n=m\/(n∈ns/\n.pQ≠m.pQ):=by
 obtain x12|a|ha|e:=aL.mp h;split at e
 ·exact .inl e.symm
 ·rename_i hne;subst e;exact .inr ⟨ha,hne⟩
theorem PC(ns:List Nd)(m:Nd):(NA ns m).map (·.pQ)=ns.map (·.pQ):=by
 unfold NA;rw [aP];refine bZ λn Z=>?_;show (if n.pQ=m.pQ then m else n).pQ=n.pQ;split
 ·rename_i h;exact h.symm
 ·rfl
theorem VA(nd:(ns.map (·.pQ)).Nodup){n:Nd}(h:n∈ns):ndAt ns n.pQ=some n:=by
 induction ns with
 | nil=>cases h
 | cons a r ih=>
  rw [vB];rw [bJ,bN] at nd;rcases aZ.mp h with rfl | h
  ·rw [aN rfl]
  ·have:a.pQ≠n.pQ:=λz=>nd.1 (z▸bI h);rw [aJ this];exact ih nd.2 h
theorem GU(nd:(ns.map (·.pQ)).Nodup){n m:Nd}(h:n∈ns)(hp:m.pQ=n.pQ)(hz:m.zr=n.zr):(NA ns m).map (·.zr)=ns.map (·.zr):=by
 unfold NA;rw [aP];refine bZ λa ha=>?_;show (if a.pQ=m.pQ then m else a).zr=a.zr;split
 ·rename_i e;have e1:=VA nd ha;have e2:=VA nd h;rw [e,hp,e2] at e1;cases e1;exact hz
 ·rfl
section
variable {A:Adr} {hY:Int} {hZ zaps:List (V×V)}
theorem Rep.len(R:Rep ⟨H0,L0⟩ A hY ns hZ zaps):∀ i∈foot A ns,i < H0.length:=by
 intro i hi;simp only [List.mem_cons,List.mem_map] at hi;rcases hi with rfl | rfl | rfl | rfl | rfl | ⟨n,hn,rfl⟩
 ·exact CA R.base.inst
 ·exact CA R.base.own.choose_spec
 ·exact CA R.base.nts.choose_spec
 ·exact CA R.base.zps.choose_spec
 ·exact CA R.root.choose_spec
 ·exact CA (R.kQ n hn).choose_spec
theorem Rep.store(R:Rep ⟨H0,L0⟩ A hY ns hZ zaps){n m:Nd}(hn:n∈ns)(hp:m.pQ=n.pQ)(hz:m.zr=n.zr)(hk:m.kQ=n.kQ)(hf:m.Fit)(pre:Pre H0 h)(hN:h[A.N]? =some (.dict hZ k))(l:List (Str×V)):
  ∃ hZ',Rep ⟨h.set A.N (KX (.int m.pQ) (.bytes (rowB m.row)) hZ k),l⟩ A hY (NA ns m) hZ' zaps/\foot A (NA ns m)=foot A ns:=by
 have fe:foot A (NA ns m)=foot A ns:=by unfold foot;rw [GU R.pnd hn hp hz]
 have nd:=R.addr;obtain x05|nb|nbd|nZ|nzn|nzr:=xW nd;have sY:=R.hnotes n.pQ;rw [VA R.pnd hn] at sY;have hsome:(IA (.int m.pQ) hZ).isSome=true:=by rw [hp,sY];rfl
 have hlen:(putK (.int m.pQ) (.bytes (rowB m.row)) hZ).length=hZ.length:=by
  have:=aU List.length (SP (.int m.pQ) (.bytes (rowB m.row)) hZ hsome);simpa using this
 refine i12 (putK (.int m.pQ) (.bytes (rowB m.row)) hZ) ({base:={inst:=qA nb (pre.get R.base.inst),own:=(let ⟨k,e⟩:=R.base.own;⟨k,qA nbd (pre.get e)⟩),nts:=⟨_,(by unfold KX;exact RA hN)⟩,zps:=(let ⟨k,e⟩:=R.base.zps;⟨k,qA nZ (pre.get e)⟩),nk:=⟨RH rfl R.base.nk.1,(by rw [hlen];exact R.base.nk.2)⟩,zk:=R.base.zk,ne:=R.base.ne},hnotes:=?_,nnd:=YM _ _ _ R.nnd,znames:=R.znames,zkids:=?_,zprops:=?_,znone:=R.znone,lens:=(by rw [hlen];exact R.lens),root:=(let ⟨k,e⟩:=R.root;⟨k,qA nzn (pre.get e)⟩),kQ:=?_,fit:=?_,kok:=?_,addr:=(by rw [fe];exact R.addr),places:=?_,pnd:=(by rw [PC];exact R.pnd),low:=R.low}) fe
 ·intro p;rw [uB,DB,R.hnotes];by_cases h:p=m.pQ
  ·subst h;rw [aN rfl,aN rfl,hp,VA R.pnd hn];rfl
  ·rw [aJ (λz=>h (vint z).symm),aJ h]
 ·intro a ha;rcases nB ha with rfl | ⟨ha,_⟩
  ·rw [hp,hz];exact R.zkids n hn
  ·exact R.zkids a ha
 ·intro a ha;rcases nB ha with rfl | ⟨ha,_⟩
  ·rw [hp];exact R.zprops n hn
  ·exact R.zprops a ha
 ·intro a ha;rcases nB ha with rfl | ⟨ha,_⟩
  ·obtain x11|k|e:=R.kQ n hn;rw [hz];refine ⟨k,?_⟩;unfold HD;rw [hk];exact qA (nzr n hn) (pre.get e)
  ·obtain x11|k|e:=R.kQ a ha;exact ⟨k,qA (nzr a ha) (pre.get e)⟩
 ·intro a ha;rcases nB ha with rfl | ⟨ha,_⟩
  ·exact hf
  ·exact R.fit a ha
 ·intro a ha;rcases nB ha with rfl | ⟨ha,_⟩
  ·rw [hk];exact R.kok n hn
  ·exact R.kok a ha
 ·intro a ha;rcases nB ha with rfl | ⟨ha,_⟩
  ·rw [hp];exact R.places n hn
  ·exact R.places a ha
end
end
section
noncomputable def Nd.add(n:Nd)(u b:Int):Nd:={n with used:=n.used+u,bel:=n.bel+b}
noncomputable def tA:Nat->List Nd->Int->Int->Int->List Nd
 | 0,ns,_,_,_=>ns
 | k+1,ns,p,u,b=>if p≠0/\(u≠0\/b≠0) then match ndAt ns p with
   | some n=>tA k (NA ns (n.add u b)) n.par 0 ((n.add u b).share - n.share)
   | none=>ns
  else ns
noncomputable def CuOk:Nat->List Nd->Int->Int->Int->Prop
 | 0,_,p,u,b=>¬ (p≠0/\(u≠0\/b≠0))
 | k+1,ns,p,u,b=>(p≠0/\(u≠0\/b≠0))->∃ n,ndAt ns p=some n/\(n.add u b).Fit/\CuOk k (NA ns (n.add u b)) n.par 0 ((n.add u b).share - n.share)
theorem AV{n:Nd}{x:Int}:KX (.str "used") (.int x) (xC n) k= .dict (xC {n with used:=x}) k:=by rfl
theorem lT{n:Nd}{x:Int}:KX (.str "below") (.int x) (xC n) k= .dict (xC {n with bel:=x}) k:=by rfl
theorem OW{n:Nd}{x:Int}:KX (.str "reserved") (.int x) (xC n) k= .dict (xC {n with res:=x}) k:=by rfl
theorem NW{n:Nd}{x:Int}:KX (.str "parent") (.int x) (xC n) k= .dict (xC {n with par:=x}) k:=by rfl
section
variable {A:Adr} {hY:Int} {hZ zaps:List (V×V)}
theorem Rep.storeW{h0:List O}(R:Rep ⟨h0,[]⟩ A hY ns hZ zaps){n m:Nd}(hn:n∈ns)(hp:m.pQ=n.pQ)(hz:m.zr=n.zr)(hk:m.kQ=n.kQ)(hf:m.Fit){i di:Nat}(pre:Pre h0 H0)(I:Info H0 i di m)(li:h0.length<=i)(Bl:h0.length<=di)
  (q:∀ h hZ',Rep ⟨h,[]⟩ A hY (NA ns m) hZ' zaps->foot A (NA ns m)=foot A ns->Keep (foot A ns) h0 h->Info h i di m->H0.length<=h.length->Q .none {h:=h,l:=L0}):
  W (pg w) (λF=>F.call (.glob 292) [.ref A.b,.int m.pQ,.ref i] (d+3)) Q E ⟨H0,L0⟩:=by
 have hx:=R.hnotes m.pQ;rw [hp,VA R.pnd hn] at hx;refine VH ((R.on pre) L0).base (p:=m.pQ) (by rw [hp];exact hx) I hf λh k iZ hN=>?_;obtain x12|hZ'|R2|fe:=R.store hn hp hz hk hf (pre.trans iZ) hN [];have hN0:A.N < h0.length:=R.len _ (.tail _ (.tail _ (.head _)));have I2:=I.pre iZ;refine q _ hZ' R2 fe ((Keep.of_pre (pre.trans iZ)).set (.inl (.tail _ (.tail _ (.head _))))) ⟨qA (bG (aT hN0 li)) I2.inst,?_,I2.ne⟩ (by rw [gR];exact iZ.len);obtain x11|k2|e:=I2.own;exact ⟨k2,qA (bG (aT hN0 Bl)) e⟩
theorem Rep.l0(R:Rep ⟨H0,L0⟩ A hY ns hZ zaps):Rep ⟨H0,[]⟩ A hY ns hZ zaps:=R.loc []
theorem EC(R:Rep ⟨H0,L0⟩ A hY ns hZ zaps){p u b:Int}(hc:CuOk k ns p u b)
  (q:∀ h hZ',Rep ⟨h,[]⟩ A hY (tA k ns p u b) hZ' zaps->foot A (tA k ns p u b)=foot A ns->Keep (foot A ns) H0 h->Q .none {h:=h,l:=L0}):
  W (pg w) (λF=>F.call (.glob 396) [.ref A.b,.int p,.int u,.int b] (d+4)) Q E ⟨H0,L0⟩:=by
 refine W.f (P:=pg w) rfl ?_;intro P J J' E' L';refine W.stC (W.mF (W.whI (λj s'=>has s'.l "base" (.ref A.b)/\∃ ns' hZ' c u' b',has s'.l "place" (.int c)/\has s'.l "used" (.int u')/\has s'.l "below" (.int b')/\Rep ⟨s'.h,[]⟩ A hY ns' hZ' zaps/\foot A ns'=foot A ns/\Keep (foot A ns) H0 s'.h/\CuOk j ns' c u' b'/\tA k ns p u b=tA j ns' c u' b') ?_ k _ ⟨rfl,ns,hZ,p,u,b,rfl,rfl,rfl,R.l0,rfl,Keep.refl _ _,hc,rfl⟩));intro j s' ii;obtain x02|i1|Do:=ii;obtain x51|ns'|hZ'|c|u'|b'|Dp:=Do;obtain x06|i2|i3|i4|R'|fe|Dq:=Dp;obtain ⟨kp,i5,i6⟩:=Dq;have fin:¬ (c≠0/\(u'≠0\/b'≠0))->Q .none {h:=s'.h,l:=L0}:=λCp=>by
  have:tA j ns' c u' b'=ns':=by
   induction j using nCq with
   | zero=>rfl
   | succ j=>show (if _ then _ else _)=_;rw [aJ Cp]
  rw [this] at i6;rw [i6] at q;exact q _ hZ' R' fe kp
 have go:c≠0->(u'≠0\/b'≠0)->∃ j',j=j'+1/\∃ n,ndAt ns' c=some n/\(n.add u' b').Fit/\CuOk j' (NA ns' (n.add u' b')) n.par 0 ((n.add u' b').share - n.share)/\tA k ns p u b=tA j' (NA ns' (n.add u' b')) n.par 0 ((n.add u' b').share - n.share):=λh1 h2=>by
  induction j using nCq with
  | zero=>exact aS ⟨h1,h2⟩ i5
  | succ j=>
   obtain x13|n|e1|e2|e3:=i5 ⟨h1,h2⟩;refine i12 j rfl ⟨n,e1,e2,e3,?_⟩;rw [i6];show (if _ then _ else _)=_;rw [aN ⟨h1,h2⟩,e1]
 have mZ:∀ {Q2:Bool->S->Prop},((c≠0/\(u'≠0\/b'≠0))->Q2 true s')->(¬ (c≠0/\(u'≠0\/b'≠0))->Q2 false s')->Q2 (decide (c≠0/\(u'≠0\/b'≠0))) s':=λh1 h2=>by
  by_cases h:c≠0/\(u'≠0\/b'≠0)
  ·rw [aF h];exact h1 h
  ·rw [bE h];exact h2 h
 refine W.post (Q:=λbb s1=>bb=decide (c≠0/\(u'≠0\/b'≠0))/\s1=s') ?_ λbb s1 ⟨hb,hs⟩=>?_
 ·refine W.tP (W.IM (W.xA rfl (W.lo i2 (W.iA rfl (W.jA (a:=!decide (c=0)) (λZ=>rfl) ?_)))));by_cases h1:c=0
  ·rw [aF h1];exact ⟨by simp [h1],rfl⟩
  rw [bE h1];refine W.IM (W.oF (W.qC (W.xA rfl (W.lo i3 (W.iA rfl (W.jA (a:=!decide (u'=0)) (λZ=>rfl) ?_))))));by_cases h2:u'=0
  ·rw [aF h2];refine W.qC (W.xA rfl (W.lo i4 (W.iA rfl (W.jA (a:=!decide (b'=0)) (λZ=>rfl) ?_))));by_cases h3:b'=0
   ·rw [aF h3];exact W.DG ⟨by simp [h2,h3],rfl⟩
   ·rw [bE h3];exact W.RO ⟨by simp [h1,h2,h3],rfl⟩
  ·rw [bE h2];exact W.RO ⟨by simp [h1,h2],rfl⟩
 subst hb;rw [hs];by_cases hcond:c≠0/\(u'≠0\/b'≠0)
 ·rw [aF hcond,aN rfl];obtain x12|j'|rfl|Dn:=(λh=>go h.1 h.2:(c≠0/\(u'≠0\/b'≠0))->∃ j',j=j'+1/\∃ n,ndAt ns' c=some n/\(n.add u' b').Fit/\CuOk j' (NA ns' (n.add u' b')) n.par 0 ((n.add u' b').share - n.share)/\tA k ns p u b=tA j' (NA ns' (n.add u' b')) n.par 0 ((n.add u' b').share - n.share)) hcond;obtain x14|n|e1|e2|e3|e4:=Dn;obtain x02|hn|hcp:=wA e1;refine W.stC (W.sA (W.cG (by rfl) (W.la i1 (W.la i2 (W.en rfl ?_)))));refine (R'.on (Pre.refl _) _).load e1 λh1 i di p1 li Bl An=>W.asN rfl ?_;refine W.stC (W.sA (W.cG (by rfl) (W.la TA (W.en rfl (iC An (W.asN rfl ?_))))));obtain x11|k2|Cx:=An.own;refine W.stC (W.sA (W.GA (W.LA rfl (W.lo (vA (by decide) TA) (W.rA An.inst Cx (gd _ (by decide)) rfl rfl (W.lo (vA (by decide) (vA (by decide) i3)) (W.jA (λZ=>rfl) ?_)))))));refine W.asA (W.lo (vA (by decide) TA) (W.QB An.inst Cx (sd _ (by decide)) rfl ?_));rw [AV];have Cv:s'.h.length<=di:=Bl;have I2:Info (h1.set di (.dict (xC {n with used:=n.used+u'}) k2)) i di {n with used:=n.used+u'}:=⟨qA (Ne.symm An.ne) An.inst,⟨k2,RA Cx⟩,An.ne⟩;have p2:Pre s'.h (h1.set di (.dict (xC {n with used:=n.used+u'}) k2)):=p1.set Cv;obtain x11|k3|Cy:=I2.own
  revert I2 p2 Cy;refine genI (h1.set di (.dict (xC {n with used:=n.used+u'}) k2)) ?_;intro h2 I2 p2 Cy
  refine W.stC (W.sA (W.GA (W.LA rfl (W.lo (vA (by decide) TA) (W.rA I2.inst Cy (gd _ (by decide)) rfl rfl (W.lo (vA (by decide) (vA (by decide) i4)) (W.jA (λZ=>rfl) ?_)))))));refine W.asA (W.lo (vA (by decide) TA) (W.QB I2.inst Cy (sd _ (by decide)) rfl ?_));rw [lT];have I3:Info (h2.set di (.dict (xC (n.add u' b')) k3)) i di (n.add u' b'):=⟨qA (Ne.symm I2.ne) I2.inst,⟨k3,RA Cy⟩,I2.ne⟩;have p3:Pre s'.h (h2.set di (.dict (xC (n.add u' b')) k3)):=p2.set Cv;refine W.heap (h':=h2.set di (.dict (xC (n.add u' b')) k3)) rfl ?_
  revert I3 p3;refine genI (h2.set di (.dict (xC (n.add u' b')) k3)) ?_;intro h3 I3 p3
  refine W.stC (W.iB rfl (W.cG (by rfl) (W.lo (vA (by decide) (vA (by decide) i1)) (W.lo (vA (by decide) (vA (by decide) i2)) (W.la (vA (by decide) TA) (W.en rfl ?_))))));rw [<-hcp];refine R'.storeW (m:=n.add u' b') hn rfl rfl rfl e2 p3 I3 li Bl λh4 notes4 R4 fe4 kp4 I4 l4=>?_;obtain x11|k5|own5:=I4.own;refine W.stC (W.WF (names:= ["used","below","place"]) rfl rfl (W.TB rfl rfl (W.iA rfl (W.GA (W.cG (by rfl) (W.la (vA (by decide) TA) (W.en rfl (iC I4 (W.lo TA (W.jA (λZ=>rfl) (W.LA rfl (W.lo (vA (by decide) TA) (W.rA I4.inst own5 (gd _ (by decide)) rfl rfl (i13 _ (YB oA) rfl (W.kD rfl (W.kD rfl (W.kD rfl (W.yI (W.stN ?_)))))))))))))))))));refine i13 j' (dR j') ?_ ⟨NA ns' (n.add u' b'),notes4,n.par,0,(n.add u' b').share - n.share,?_,?_,?_,R4.on (Pre.app _ _) [],fe4.trans fe,?_,e3,e4⟩
  ·exact vA (by decide) (vA (by decide) (vA (by decide) (vA (by decide) (vA (by decide) i1))))
  ·exact vA (by decide) (vA (by decide) TA)
  ·exact TA
  ·exact vA (by decide) TA
  ·refine (kp.trans' kp4 λi hi=> .inl (fe▸hi)).trans (Keep.of_pre (Pre.app _ _))
 ·rw [bE hcond];exact W.stN (fin hcond)
end
end
section
theorem Base.bne{s:S}{b bd N Zq:Nat}{hY:Int}{hZ zaps:List (V×V)}(B:Base s b bd N Zq hY hZ zaps):bd≠b/\N≠b/\Zq≠b:=by
 obtain x11|k1|own:=B.own;obtain x11|k2|nts:=B.nts;obtain x11|k3|zps:=B.zps;refine ⟨λz=>?_,λz=>?_,λz=>?_⟩
 ·have:=B.inst;rw [<-z,own] at this;cases this
 ·have:=B.inst;rw [<-z,nts] at this;cases this
 ·have:=B.inst;rw [<-z,zps] at this;cases this
section
variable {b bd N Zq:Nat} {hY:Int} {hZ zaps:List (V×V)}
theorem LK(B:Base ⟨H0,L0⟩ b bd N Zq hY hZ zaps)(hz:zaps.length < 900)(q:∀ h,Base ⟨h,[]⟩ b bd N Zq (hY+1) hZ (putK (.int (hY+1)) (.ref H0.length) zaps)->Keep [bd,Zq] H0 h->h[H0.length]? =some (.dict [] 0)->h.length=H0.length+1->Q (.int (hY+1)) {h:=h,l:=L0}):
  W (pg w) (λF=>F.call (.glob 188) [.ref b] (d+1)) Q E ⟨H0,L0⟩:=by
 obtain x03|n1|n2|n3:=B.bne;have lb:=CA B.inst;have lN:=CA B.nts.choose_spec;have lZ:=CA B.zps.choose_spec;have lbd:=CA B.own.choose_spec;refine MK (λZ=>rfl) B λk1 k2 e1 e2=>?_;obtain x11|k3|e3:=B.nts;refine q _ {inst:=qA n3 (lA (qA n1 B.inst)),own:=⟨k1,qA (Ne.symm B.ne.2.1) (lA (RA e1))⟩,nts:=⟨k3,qA (Ne.symm B.ne.2.2) (lA (qA B.ne.1 e3))⟩,zps:=⟨_,(by unfold KX;exact RA (lA (qA B.ne.2.1 e2)))⟩,nk:=B.nk,zk:=⟨RH rfl B.zk.1,aE (KD _ _ _) hz⟩,ne:=B.ne} ?_ ?_ ?_
 ·exact (((Keep.refl _ _).set (.inl (.head _))).trans (Keep.of_pre (Pre.app _ _))).set (.inl (.tail _ (.head _)))
 ·refine qA (bG lZ) ?_;have:=oA (h:=H0.set bd (.dict (ownD (hY+1) N Zq) k1)) (o:=O.dict [] 0)
  rwa [gR] at this
 ·simp
theorem sO(B:Base ⟨H0,L0⟩ b bd N Zq hY hZ zaps)(hz:hZ.length < 900){x:Array UInt8}(q:∀ h,Base ⟨h,[]⟩ b bd N Zq (hY+1) (putK (.int (hY+1)) (.bytes x) hZ) zaps->Keep [bd,N] H0 h->h.length=H0.length->Q (.int (hY+1)) {h:=h,l:=L0}):
  W (pg w) (λF=>F.call (.glob 153) [.ref b,.bytes x] (d+1)) Q E ⟨H0,L0⟩:=by
 obtain x03|n1|n2|n3:=B.bne;refine tO (λZ=>rfl) B λk1 k2 e1 e2=>?_;obtain x11|k3|e3:=B.zps;refine q _ {inst:=qA n2 (qA n1 B.inst),own:=⟨k1,qA (Ne.symm B.ne.1) (RA e1)⟩,nts:=⟨_,(by unfold KX;exact RA (qA B.ne.1 e2))⟩,zps:=⟨k3,qA B.ne.2.2 (qA B.ne.2.1 e3)⟩,nk:=⟨RH rfl B.nk.1,aE (KD _ _ _) hz⟩,zk:=B.zk,ne:=B.ne} ?_ ?_
 ·exact ((Keep.refl _ _).set (.inl (.head _))).set (.inl (.tail _ (.head _)))
 ·simp
theorem Base.loc(B:Base ⟨H0,L0⟩ b bd N Zq hY hZ zaps)(l:List (Str×V)):Base ⟨H0,l⟩ b bd N Zq hY hZ zaps:=B.pre (Pre.refl H0)
theorem Base.on(B:Base ⟨H0,L0⟩ b bd N Zq hY hZ zaps)(p:Pre H0 h)(l:List (Str×V)):Base ⟨h,l⟩ b bd N Zq hY hZ zaps:=B.pre p
theorem KK(B:Base ⟨H0,L0⟩ b bd N Zq hY hZ zaps)(hz:zaps.length < 800)(Bx:hZ.length < 900){par:Int}(hp:0<=par/\par < 256 ^ 8)(hl:0<=hY/\hY < 100000)
  (q:∀ h z1 z2,Base ⟨h,[]⟩ b bd N Zq (hY+1+1+1) (putK (.int (hY+1+1+1)) (.bytes (rowB [par,0,hY+1,hY+1+1,0,0,0,0,0,0])) hZ) (putK (.int (hY+1+1)) (.ref z2) (putK (.int (hY+1)) (.ref z1) zaps))->Keep [bd,N,Zq] H0 h->h[z1]? =some (.dict [] 0)->H0.length<=z1->Q (.int (hY+1+1+1)) {h:=h,l:=L0}):
  W (pg w) (λF=>F.call (.glob 304) [.ref b,.int par,.int 0] (d+3)) Q E ⟨H0,L0⟩:=by
 obtain x11|k1|own:=B.own;refine W.f (P:=pg w) rfl ?_;intro P J J' E' L';refine W.stC (W.sA (W.list rfl rfl (W.lo rfl (W.iA rfl (W.KA rfl rfl rfl (W.lo rfl (W.YA B.inst own tG rfl rfl ⟨by rfl,?_⟩)))))));refine LK (B.loc _) (aT hz (by decide)) λh1 B1 kp1 e1 l1=>?_;obtain x11|k2|Cx:=B1.own;refine W.KA rfl rfl rfl (W.lo rfl (W.YA B1.inst Cx tG rfl rfl ⟨by rfl,?_⟩));have hlz:=KD (.int (hY+1)) (.ref H0.length) zaps;refine LK (B1.loc _) (bF hlz (bF hz (by decide))) λh2 B2 kp2 e2 l2=>?_;refine W.lo rfl (W.iA rfl (W.iA rfl (W.iA rfl (W.iA rfl (W.iA rfl (W.asN rfl ?_))))));have zne:∀ x:Nat,x < H0.length->x≠H0.length:=λx h=>bG h;have lb:=CA B.zps.choose_spec;have lbd:=CA own;have lN:=CA B.nts.choose_spec;refine genE (O.list [V.int par,.int 0,.int (hY+1),.int (hY+1+1),.int 0,.int 0,.int 0,.int 0,.int 0,.int 0]) ?_;intro X hX;have B3:=B2.on (h:=h2++ [X]) (Pre.app _ _);obtain x11|k3|Cy:=(B3 []).own;refine W.stC (W.pA (W.KA rfl rfl rfl (W.lo rfl (W.YA (B3 []).inst Cy lM rfl rfl (W.cG (by rfl) (W.la rfl ⟨by rfl,?_⟩))))));refine LG (ns:= [par,0,hY+1,hY+1+1,0,0,0,0,0,0]) (by subst hX;exact oA) ?_ (cH ..) (cH ..) λh4 p4=>⟨by rfl,?_⟩
 ·exact pR hp hl.1 hl.2
 refine sO ((B3 []).on p4 _) Bx λh5 B5 kp5 l5=>?_;have kp1':Keep [bd,N,Zq] H0 h1:=kp1.sub (.cons₂ _ (.cons _ (.cons₂ _ .slnil)));have kp2':Keep [bd,N,Zq] h1 h2:=kp2.sub (.cons₂ _ (.cons _ (.cons₂ _ .slnil)));have kp5':Keep [bd,N,Zq] h4 h5:=kp5.sub (.cons₂ _ (.cons₂ _ (.cons _ .slnil)));have lY:Keep [bd,N,Zq] h1 h5:=kp2'.trans ((Keep.of_pre ((Pre.app _ _).trans p4)).trans kp5');exact q h5 H0.length h1.length B5 (kp1'.trans lY) (lY.2 _ _ e1 (nin3 (aV lbd) (aV lN) (aV lb))) (aY _)
end
end
section
theorem ZG(ns:List Nd)(m:Nd)(p:Int):ndAt (ns++ [m]) p=match ndAt ns p with
  | some n=>some n
  | none=>if m.pQ=p then some m else none:=by
 induction ns with
 | nil=>rw [List.nil_append,vB];rfl
 | cons a r ih=>
  rw [fM,vB,vB,ih];by_cases h:a.pQ=p
  ·rw [aN h,aN h]
  ·rw [aJ h,aJ h]
theorem DF{p:Int}(h:∀ n∈ns,n.pQ≠p):ndAt ns p=none:=by
 unfold ndAt;rw [gT];intro n hn;simpa using h n hn
theorem AB{β:Type}{f:α->β}:∀ {l:List α},(l.map f).Nodup->∀ {a b:α},a∈l->b∈l->f a=f b->a=b:=by
 intro l
 induction l with
 | nil=>intro _ _ _ h _ _;cases h
 | cons x r ih=>
  intro nd a b ha hb e;rw [bJ,bN] at nd;rcases aZ.mp ha with h1 | h1
  ·rcases aZ.mp hb with h2 | h2
   ·rw [h1,h2]
   ·rw [h1] at e;exact aS (e▸bI h2) nd.1
  ·rcases aZ.mp hb with h2 | h2
   ·rw [h2] at e;exact aS (e▸bI h1) nd.1
   ·exact ih nd.2 h1 h2 e
noncomputable def SD(hY par:Int)(z:Nat):Nd:=⟨hY+1+1+1,par,0,0,0,z,[]⟩
theorem tU(hY par:Int)(z:Nat):(SD hY par z).row= [par,0,hY+1,hY+1+1,0,0,0,0,0,0]:=by
 show [par,0,hY+1+1+1 - 2,hY+1+1+1 - 1,0,0,0,0,0,0]=_;rw [sb2,sb1]
section
variable {A:Adr} {hY:Int} {hZ zaps:List (V×V)}
theorem Rep.newDir(R:Rep ⟨H0,L0⟩ A hY ns hZ zaps){par:Int}(hp:0<=par/\par < 256 ^ 8)(hl:hY+3<=800){z1 z2:Nat}(B:Base ⟨h,[]⟩ A.b A.bd A.N A.Zq (hY+1+1+1) (putK (.int (hY+1+1+1)) (.bytes (rowB [par,0,hY+1,hY+1+1,0,0,0,0,0,0])) hZ) (putK (.int (hY+1+1)) (.ref z2) (putK (.int (hY+1)) (.ref z1) zaps)))
  (kp:Keep [A.bd,A.N,A.Zq] H0 h) (e1:h[z1]? =some (.dict [] 0)) (hz1:H0.length<=z1):
  ∃ hZ' zaps',Rep ⟨h,[]⟩ A (hY+1+1+1) (ns++ [SD hY par z1]) hZ' zaps':=by
 have nd:=R.addr;have Dg:=R.places;have Dh:=R.low;refine i21 _ _ ({base:=B,hnotes:=?_,nnd:=YM _ _ _ R.nnd,znames:=?_,zkids:=?_,zprops:=?_,znone:=?_,lens:=?_,root:=?_,kQ:=?_,fit:=?_,kok:=?_,addr:=?_,places:=?_,pnd:=?_,low:=i03 (m3 Dh.1) (up3 Dh.2.1) (s3 hl)})
 ·intro p;rw [uB,ZG,R.hnotes];by_cases h:p=hY+1+1+1
  ·subst h;rw [aN rfl,DF (λn hn z=>lt3 (Dg n hn).2.2 z.symm)];have e9:(SD hY par z1).pQ=hY+1+1+1:=rfl
   (try dsimp only)
   rw [aN e9,Option.map_some,tU]
  ·rw [aJ (λz=>h (vint z).symm)];cases hq:ndAt ns p with
   | some n=>rfl
   | none=>
    have h2:¬ (SD hY par z1).pQ=p:=λz=>h z.symm
    (try dsimp only)
    rw [aJ h2]
 ·rw [uB,uB,aJ (λz=>nzF Dh.2.1 (vint z)),aJ (λz=>nzE Dh.2.1 (vint z))];exact R.znames
 ·intro n hn;rw [uB,uB];rcases bR.mp hn with hn | hn
  ·rw [aJ (λz=>nzB (Dg n hn).2.2 (vint z)),aJ (λz=>nzA (Dg n hn).2.2 (vint z))];exact R.zkids n hn
  ·rw [aH.mp hn];have e:(SD hY par z1).pQ - 2=hY+1:=sb2;rw [e,aJ (λz=>hU (fS _) (vint z)),aN rfl];rfl
 ·intro n hn;rw [uB,uB];rcases bR.mp hn with hn | hn
  ·rw [aJ (λz=>nzD (Dg n hn).2.2 (vint z)),aJ (λz=>nzC (Dg n hn).2.2 (vint z))];exact R.zprops n hn
  ·rw [aH.mp hn];have e:(SD hY par z1).pQ - 1=hY+1+1:=sb1;rw [e,aN rfl];rfl
 ·intro p h1 h2;rw [uB,uB,aJ (λz=>nzH Dh.1 h1 (vint z)),aJ (λz=>nzG Dh.1 h1 (vint z))];exact R.znone p h1 h2
 ·have a1:=KD (.int (hY+1+1+1)) (.bytes (rowB [par,0,hY+1,hY+1+1,0,0,0,0,0,0])) hZ;have a2:=KD (.int (hY+1+1)) (.ref z2) (putK (.int (hY+1)) (.ref z1) zaps);have a3:=KD (.int (hY+1)) (.ref z1) zaps;exact ⟨ln1 a1 R.lens.1,ln2 a2 a3 R.lens.2⟩
 ·obtain x11|k|e:=R.root;exact ⟨k,kp.2 _ _ e (DJ nd _ (.head _))⟩
 ·intro n hn;rcases bR.mp hn with hn | hn
  ·obtain x11|k|e:=R.kQ n hn;exact ⟨k,kp.2 _ _ e (DJ nd _ (.tail _ (aL.mpr (i12 n hn rfl))))⟩
  ·rw [aH.mp hn];exact ⟨0,e1⟩
 ·intro n hn;rcases bR.mp hn with hn | hn
  ·exact R.fit n hn
  ·rw [aH.mp hn];intro x hx;rw [tU] at hx;exact pR hp (bD (by decide) Dh.2.1) (cD Dh.2.2 (by decide)) x hx
 ·intro n hn;rcases bR.mp hn with hn | hn
  ·exact R.kok n hn
  ·rw [aH.mp hn];exact ⟨(by decide:0 < 64),gH⟩
 ·have e:foot A (ns++ [SD hY par z1])=foot A ns++ [z1]:=by unfold foot;simp [SD]
  rw [e];refine dJ.mpr (i03 nd (by simp) ?_);intro a ha b hb z;exact aS (R.len a ha) (cB.mpr (by rw [z,aH.mp hb];exact hz1))
 ·intro n hn;rcases bR.mp hn with hn | hn
  ·exact ⟨(Dg n hn).1,(Dg n hn).2.1,up3 (Dg n hn).2.2⟩
  ·rw [aH.mp hn];exact ⟨m3 Dh.1,up3 Dh.2.1,eK _⟩
 ·rw [cJ];refine dJ.mpr (i03 R.pnd (by simp) ?_);intro a ha b hb z;obtain x12|n|hn|rfl:=aL.mp ha;simp only [List.map_cons,List.map_nil,List.mem_singleton] at hb;exact lt3 (Dg n hn).2.2 (z.trans hb).symm
theorem Rep.kidSet(R:Rep ⟨H0,L0⟩ A hY ns hZ zaps){n:Nd}(hn:n∈ns){ks:List (Str×Int)}(h1:ks.length < 64)(h2:(ks.map (·.1)).Nodup)(k:Nat)(l:List (Str×V)):
  Rep ⟨H0.set n.zr (.dict (ks.map λe=>(.str e.1,.int e.2)) k),l⟩ A hY (NA ns {n with kQ:=ks}) hZ zaps/\foot A (NA ns {n with kQ:=ks})=foot A ns:=by
 have fe:foot A (NA ns {n with kQ:=ks})=foot A ns:=by unfold foot;rw [GU (m:={n with kQ:=ks}) R.pnd hn rfl rfl]
 have nd:=R.addr;have nn:n.zr≠A.b/\n.zr≠A.bd/\n.zr≠A.N/\n.zr≠A.Zq/\n.zr≠A.zn:=by
  simp only [List.nodup_cons,List.mem_cons,not_or] at nd;exact i05 (λz=>nd.1.2.2.2.2 (aL.mpr (i12 n hn z))) (λz=>nd.2.1.2.2.2 (aL.mpr (i12 n hn z))) (λz=>nd.2.2.1.2.2 (aL.mpr (i12 n hn z))) (λz=>nd.2.2.2.1.2 (aL.mpr (i12 n hn z))) λz=>nd.2.2.2.2.1 (aL.mpr (i12 n hn z))
 have ndz:(ns.map (·.zr)).Nodup:=by
  simp only [List.nodup_cons] at nd;exact nd.2.2.2.2.2
 have hother:∀ a∈ns,a.pQ≠n.pQ->n.zr≠a.zr:=λa ha hne z=>by
  have e1:a=n:=AB ndz ha hn z.symm;exact hne (by rw [e1])
 obtain x11|k0|e0:=R.kQ n hn;refine ⟨{base:={inst:=qA nn.1 R.base.inst,own:=(let ⟨k,e⟩:=R.base.own;⟨k,qA nn.2.1 e⟩),nts:=(let ⟨k,e⟩:=R.base.nts;⟨k,qA nn.2.2.1 e⟩),zps:=(let ⟨k,e⟩:=R.base.zps;⟨k,qA nn.2.2.2.1 e⟩),nk:=R.base.nk,zk:=R.base.zk,ne:=R.base.ne},hnotes:=?_,nnd:=R.nnd,znames:=R.znames,zkids:=?_,zprops:=?_,znone:=R.znone,lens:=R.lens,root:=(let ⟨k,e⟩:=R.root;⟨k,qA nn.2.2.2.2 e⟩),kQ:=?_,fit:=?_,kok:=?_,addr:=(by rw [fe];exact R.addr),places:=?_,pnd:=(by rw [PC];exact R.pnd),low:=R.low},fe⟩
 ·intro p;rw [DB,R.hnotes];by_cases h:p=n.pQ
  ·subst h;rw [aN rfl,VA R.pnd hn];rfl
  ·have h':¬ p=({n with kQ:=ks}:Nd).pQ:=h;rw [aJ h']
 ·intro a ha;rcases nB ha with rfl | ⟨ha,_⟩
  ·exact R.zkids n hn
  ·exact R.zkids a ha
 ·intro a ha;rcases nB ha with rfl | ⟨ha,_⟩
  ·exact R.zprops n hn
  ·exact R.zprops a ha
 ·intro a ha;rcases nB ha with rfl | ⟨ha,hne⟩
  ·exact ⟨k,RA e0⟩
  ·obtain x11|k|e:=R.kQ a ha;exact ⟨k,qA (hother a ha hne) e⟩
 ·intro a ha;rcases nB ha with rfl | ⟨ha,_⟩
  ·exact R.fit n hn
  ·exact R.fit a ha
 ·intro a ha;rcases nB ha with rfl | ⟨ha,_⟩
  ·exact ⟨h1,h2⟩
  ·exact R.kok a ha
 ·intro a ha;rcases nB ha with rfl | ⟨ha,_⟩
  ·exact R.places n hn
  ·exact R.places a ha
end
end
section
noncomputable def uC(x:Str):List (Str×Int)->List (Str×Int)
 | []=> []
 | (y,c)::r=>if y=x then r else (y,c)::uC x r
theorem GL{y:Str}{c:Int}{r:List (Str×Int)}:uC x ((y,c)::r)=if y=x then r else (y,c)::uC x r:=rfl
theorem VP(x:Str):∀ l:List (Str×Int),zB (.str x) (l.map λe=>(V.str e.1,V.int e.2))=(uC x l).map λe=>(V.str e.1,V.int e.2):=by
 intro l
 induction l with
 | nil=>exact rfl
 | cons z0 r ih=>
  obtain ⟨y,c⟩:=z0;rw [bJ];rw [UE];rw [GL];by_cases h:y=x
  ·subst h;rw [aN rfl,aN rfl]
  ·rw [aJ (λe=>h (vstr e)),aJ h,ih];rfl
theorem xK(x:Str):∀ l:List (Str×Int),(uC x l).Sublist l:=by
 intro l
 induction l with
 | nil=>exact List.Sublist.refl _
 | cons z0 r ih=>
  obtain ⟨y,c⟩:=z0;rw [GL];split
  ·exact List.sublist_cons_self _ _
  ·exact (ih).cons_cons _
theorem YL:∀ {l:List (Str×Int)},l.lookup x=none->x∉l.map (·.1):=by
 intro l
 induction l with
 | nil=>intro _;exact λh=>aS h cR
 | cons z0 r ih=>
  intro h;obtain ⟨y,u⟩:=z0;rw [bQ] at h;split at h
  ·cases h
  ·rename_i e;simp only [List.map_cons,List.mem_cons,not_or];exact ⟨by simpa using e,ih h⟩
noncomputable def XD(ns:List Nd)(hY:Int)(n:Nd)(x:Str)(z:Nat):List Nd:=NA (ns++ [SD hY n.pQ z]) {n with kQ:=n.kQ++ [(x,hY+1+1+1)]}
section
variable {A:Adr} {hY:Int} {hZ zaps:List (V×V)}
theorem Rep.putW(R:Rep ⟨H0,L0⟩ A hY ns hZ zaps){n:Nd}(hn:n∈ns){c:Int}(hx:n.kQ.lookup x=none)(hl:n.kQ.length < 63)(hc:0<=c/\c < 2 ^ 64)
  (q:∀ h,Rep ⟨h,[]⟩ A hY (NA ns {n with kQ:=n.kQ++ [(x,c)]}) hZ zaps->foot A (NA ns {n with kQ:=n.kQ++ [(x,c)]})=foot A ns->Keep (foot A ns) H0 h->Q .none {h:=h,l:=L0}):
  W (pg w) (λF=>F.call (.glob 209) [.ref A.b,.int (n.pQ - 2),.str x,.int c] (d+2)) Q E ⟨H0,L0⟩:=by
 obtain x11|k|hk:=R.kQ n hn;refine PW (λZ=>rfl) (λZ=>rfl) R.base (R.zkids n hn) hk (KJ x n) (by rw [aO];exact aE (cC hl) (by decide)) hc ?_;have e1:IA (.str x) (HD n)=none:=by unfold HD;rw [wH,hx];rfl
 have e2:KX (.str x) (.int c) (HD n) k= .dict ((n.kQ++ [(x,c)]).map λe=>(.str e.1,.int e.2)) (k+1):=by
  unfold KX;rw [UJ _ _ _ e1,e1,cJ];rfl
 rw [e2];obtain x02|R2|fe:=R.kidSet hn (ks:=n.kQ++ [(x,c)]) (by rw [bA];exact Nat.succ_lt_succ hl) (by
  rw [cJ];refine dJ.mpr ⟨(R.kok n hn).2,by simp,?_⟩;intro a ha b hb z;simp only [List.map_cons,List.map_nil,List.mem_singleton] at hb;exact YL hx (hb▸z▸ha)) (k+1) []
 exact q _ R2 fe ((Keep.refl _ _).set (.inl (by simp only [List.mem_cons,List.mem_map];exact .inr (.inr (.inr (.inr (.inr ⟨n,hn,rfl⟩)))))))
theorem Rep.takeW(R:Rep ⟨H0,L0⟩ A hY ns hZ zaps){n:Nd}(hn:n∈ns){c:Int}(hx:n.kQ.lookup x=some c)
  (q:∀ h,Rep ⟨h,[]⟩ A hY (NA ns {n with kQ:=uC x n.kQ}) hZ zaps->foot A (NA ns {n with kQ:=uC x n.kQ})=foot A ns->Keep (foot A ns) H0 h->Q (.int c) {h:=h,l:=L0}):
  W (pg w) (λF=>F.call (.glob 216) [.ref A.b,.int (n.pQ - 2),.str x] (d+2)) Q E ⟨H0,L0⟩:=by
 obtain x11|k|hk:=R.kQ n hn;have hlen:=(R.kok n hn).1;refine TW (λZ=>rfl) (λZ=>rfl) R.base (R.zkids n hn) hk (KJ x n) (by rw [aO];exact aE (cC hlen) (by decide)) (v:= .int c) (by unfold HD;rw [wH,hx];rfl) ?_;unfold HD;rw [VP];have pZ:=xK x n.kQ;obtain x02|R2|fe:=R.kidSet hn (ks:=uC x n.kQ) (bF pZ.length_le hlen) ((pZ.map _).nodup (R.kok n hn).2) (k+1) [];exact q _ R2 fe ((Keep.refl _ _).set (.inl (by simp only [List.mem_cons,List.mem_map];exact .inr (.inr (.inr (.inr (.inr ⟨n,hn,rfl⟩)))))))
theorem uP(R:Rep ⟨H0,L0⟩ A hY ns hZ zaps){n:Nd}(hp:ndAt ns n.pQ=some n)(hz:x.cps.size<=1000)(hl:hY+3<=800)(hk:n.kQ.length < 63)
  (q:∀ h z hZ' zaps',Rep ⟨h,[]⟩ A (hY+1+1+1) (XD ns hY n x z) hZ' zaps'->Keep (foot A ns) H0 h->foot A (XD ns hY n x z)=foot A ns++ [z]->H0.length<=z->MA x=true->n.kQ.lookup x=none->Q (.int (hY+1+1+1)) {h:=h,l:=L0})
  (e1:∀ h,Pre H0 h->MA x=false->E 99 {h:=h,l:=L0}) (e2:∀ h c,Pre H0 h->MA x=true->n.kQ.lookup x=some c->E 63 {h:=h,l:=L0}):
  W (pg w) (λF=>F.call (.glob 347) [.ref A.b,.int n.pQ,.str x] (d+6)) Q E ⟨H0,L0⟩:=by
 obtain x02|hn|u_:=wA hp;have Dg:=R.places n hn;have Dh:=R.low;refine W.f (P:=pg w) (vs:= [.ref A.b,.int n.pQ,.str x,.int 0]) rfl ?_;intro P J J' E' L';refine W.stC (W.iB rfl (W.cG (by rfl) (W.la rfl (W.la rfl (W.la rfl (W.en rfl (mI (R.loc _) hp hz (λh1 p1 ok1 no1=>?_) (λh p ok=>e1 h p ok) (λh c p ok hc=>e2 h c p ok hc))))))));have R1:=R.on p1;refine W.stC (W.sA (W.cG (by rfl) (W.la rfl (W.la rfl (W.la rfl (W.en rfl ?_))))));have Ct:=pb Dg Dh.2.2;refine KK (R1 _).base (w1 hl R.lens.2) (bB (w1 hl R.lens.1) (by decide)) Ct ⟨bD (by decide) R.low.2.1,cD R.low.2.2 (by decide)⟩ λh2 z1 z2 B2 kp2 e3 hz1=>W.asN rfl ?_;obtain x21|notes2|zaps2|R2:=(R1 []).newDir (par:=n.pQ) Ct hl B2 kp2 e3 hz1;have hn2:n∈ns++ [SD hY n.pQ z1]:=cA _ hn;have Am:ndAt (ns++ [SD hY n.pQ z1]) n.pQ=some n:=by rw [ZG,hp]
 obtain x11|k2|Cx:=R2.base.own;refine W.stC (W.iB rfl (W.KA rfl rfl rfl (W.lo rfl (W.YA R2.base.inst Cx NQ rfl rfl (W.LA rfl (W.cG (by rfl) (W.la rfl (W.la rfl (W.en rfl ?_)))))))));refine (R2.on (Pre.refl _) _).load Am λh3 i di p3 Z Z An=>?_;obtain x11|k3|Cy:=An.own;refine W.rA An.inst Cy (gd _ (by decide)) rfl rfl (W.la rfl (W.la rfl (W.em (by rfl) ?_)));refine (R2.on p3 _).putW hn2 no1 hk ⟨bD (by decide) (up3 Dh.2.1),cD (s3 hl) (by decide)⟩ λh4 R4 fe4 kp4=>?_;have fe2:foot A (ns++ [SD hY n.pQ z1])=foot A ns++ [z1]:=by unfold foot;simp [SD]
 refine W.stC (W.pA (W.lo rfl (q h4 z1 notes2 zaps2 R4 ?_ (fe4.trans fe2) ?_ ok1 no1)))
 ·have k1:Keep (foot A ns) H0 h3:=(Keep.of_pre p1).trans (Keep.trans (kp2.sub (.cons _ (.cons₂ _ (.cons₂ _ (.cons₂ _ (List.nil_sublist _)))))) (Keep.of_pre p3));refine k1.trans' kp4 λi hi=>?_;rw [fe2] at hi;rcases bR.mp hi with hi | hi
  ·exact .inl hi
  ·rw [aH.mp hi];exact .inr (aE p1.len hz1)
 ·exact aE p1.len hz1
end
end
section
theorem Info.keep{F:List Nat}{h':List O}{i di:Nat}{n:Nd}(I:Info h i di n)(k:Keep F h h')(h1:i∉F)(h2:di∉F):Info h' i di n:=
 ⟨k.2 _ _ I.inst h1,by obtain x11|k2|e:=I.own;exact ⟨k2,k.2 _ _ e h2⟩,I.ne⟩
noncomputable abbrev mv1(ns:List Nd)(o:Nd)(x0:Str):List Nd:=NA ns {o with kQ:=uC x0 o.kQ}
noncomputable abbrev mv2(ns:List Nd)(n:Nd)(x:Str)(o:Nd)(x0:Str)(t1:Nd):List Nd:=NA (mv1 ns o x0) {t1 with kQ:=t1.kQ++ [(x,n.pQ)]}
noncomputable abbrev mv3(ns:List Nd)(n:Nd)(x:Str)(o:Nd)(x0:Str)(t1:Nd)(k1:Nat):List Nd:=tA k1 (mv2 ns n x o x0 t1) n.par 0 (0 - n.share)
noncomputable abbrev mv4(ns:List Nd)(n:Nd)(np:Int)(x:Str)(o:Nd)(x0:Str)(t1:Nd)(k1:Nat):List Nd:=NA (mv3 ns n x o x0 t1 k1) {n with par:=np}
noncomputable abbrev mv5(ns:List Nd)(n:Nd)(np:Int)(x:Str)(o:Nd)(x0:Str)(t1:Nd)(k1 k2:Nat):List Nd:=tA k2 (mv4 ns n np x o x0 t1 k1) np 0 n.share
structure MoveOk(ns:List Nd)(n:Nd)(np:Int)(x:Str)(o:Nd)(x0:Str)(t1:Nd)(k1 k2:Nat):Prop where
 ho:ndAt ns n.par=some o
 hx0:((BA o).find? λy=>decide (o.kQ.lookup y=some n.pQ))=some x0
 ht1:ndAt (mv1 ns o x0) np=some t1
 free:t1.kQ.lookup x=none
 len:t1.kQ.length < 63
 cu1:CuOk k1 (mv2 ns n x o x0 t1) n.par 0 (0 - n.share)
 hn3:ndAt (mv3 ns n x o x0 t1 k1) n.pQ=some n
 fit:({n with par:=np}:Nd).Fit
 cu2:CuOk k2 (mv4 ns n np x o x0 t1 k1) np 0 n.share
section
variable {A:Adr} {hY:Int} {hZ zaps:List (V×V)}
theorem Rep.storeW2(R:Rep ⟨H0,L0⟩ A hY ns hZ zaps){n m:Nd}(hn:n∈ns)(hp:m.pQ=n.pQ)(hz:m.zr=n.zr)(hk:m.kQ=n.kQ)(hf:m.Fit){i di:Nat}(I:Info H0 i di m)(li:i∉foot A ns)(Bl:di∉foot A ns)
  (q:∀ h hZ',Rep ⟨h,[]⟩ A hY (NA ns m) hZ' zaps->foot A (NA ns m)=foot A ns->Keep (foot A ns) H0 h->Info h i di m->Q .none {h:=h,l:=L0}):
  W (pg w) (λF=>F.call (.glob 292) [.ref A.b,.int m.pQ,.ref i] (d+3)) Q E ⟨H0,L0⟩:=by
 have hx:=R.hnotes m.pQ;rw [hp,VA R.pnd hn] at hx;refine VH R.base (p:=m.pQ) (by rw [hp];exact hx) I hf λh k iZ hN=>?_;obtain x12|hZ'|R2|fe:=R.store hn hp hz hk hf iZ hN [];have I2:=I.pre iZ;have k2:Keep (foot A ns) H0 (h.set A.N (KX (.int m.pQ) (.bytes (rowB m.row)) hZ k)):=(Keep.of_pre iZ).set (.inl (.tail _ (.tail _ (.head _))));exact q _ hZ' R2 fe k2 (I.keep k2 li Bl)
theorem rO(R:Rep ⟨H0,L0⟩ A hY ns hZ zaps){n t:Nd}(hp:ndAt ns n.pQ=some n){np:Int}(ht:ndAt ns np=some t)(hz:x.cps.size<=1000)(hu:sC ns k np){k1 k2:Nat}
  (ok:n.par≠0->isIn ns k np n.pQ=false->MA x=true->t.kQ.lookup x=none->∃ o x0 t1,MoveOk ns n np x o x0 t1 k1 k2) {Q:V->S->Prop}
  (q:n.par≠0->isIn ns k np n.pQ=false->MA x=true->t.kQ.lookup x=none->∀ o x0 t1,MoveOk ns n np x o x0 t1 k1 k2->∀ h hZ',Rep ⟨h,[]⟩ A hY (mv5 ns n np x o x0 t1 k1 k2) hZ' zaps->Keep (foot A ns) H0 h->foot A (mv5 ns n np x o x0 t1 k1 k2)=foot A ns->Q .none {h:=h,l:=L0})
  (e0:∀ h,Pre H0 h->(n.par=0\/isIn ns k np n.pQ=true)->E 111 {h:=h,l:=L0})
  (e1:∀ h,Pre H0 h->n.par≠0->isIn ns k np n.pQ=false->MA x=false->E 99 {h:=h,l:=L0}) (e2:∀ h c,Pre H0 h->n.par≠0->isIn ns k np n.pQ=false->MA x=true->t.kQ.lookup x=some c->E 63 {h:=h,l:=L0}):
  W (pg w) (λF=>F.call (.glob 403) [.ref A.b,.int n.pQ,.int np,.str x] (d+6)) Q E ⟨H0,L0⟩:=by
 obtain x02|hn|u_:=wA hp;have Dg:=R.places n hn;have Dh:=R.low;refine W.f (P:=pg w) rfl ?_;intro P J J' E' L';refine W.stC (W.sA (W.cG (by rfl) (W.la rfl (W.la rfl (W.en rfl ?_)))));refine (R.loc _).load hp λh1 i di p1 li Bl An=>W.asN rfl ?_;have li:H0.length<=i:=li;have Cv:i∉foot A ns:=λhi=>cB.mpr (by assumption) (R.len _ hi);have rY:di∉foot A ns:=λhi=>cB.mpr (by assumption) (R.len _ hi);obtain x11|kd|Cw:=An.own;refine W.stC (W.sIf (W.oF (W.qC (W.xA rfl (W.LA rfl (W.lo rfl (W.rA An.inst Cw (gd _ (by decide)) rfl rfl (W.iA rfl (W.jA (a:=decide (n.par=0)) (λZ=>rfl) ?_)))))))));by_cases Bd:n.par=0
 ·rw [aF Bd];exact W.stC (W.lC (C:=111) (by rfl) rfl (by rfl) (W.iA rfl (e0 _ p1 (.inl Bd))))
 rw [bE Bd];refine W.qC (W.qB rfl (W.cG (by rfl) (W.la rfl (W.la rfl (W.la rfl (W.en rfl ?_))))));refine AH (R.on p1 _) hu λh2 p2=>W.jA (λZ=>rfl) ?_;have Ba:=p1.trans p2;cases hin:isIn ns k np n.pQ with
 | true=>exact W.stC (W.lC (C:=111) (by rfl) rfl (by rfl) (W.iA rfl (e0 _ Ba (.inr hin))))
 | false=>
  refine W.DG (W.stN ?_);refine W.stC (W.iB rfl (W.cG (by rfl) (W.la rfl (W.la rfl (W.la rfl (W.en rfl (mI (R.on Ba _) ht hz (λh3 p3 ok1 no1=>?_) (λh p ok=>e1 h (Ba.trans p) Bd hin ok) (λh c p ok hc=>e2 h c (Ba.trans p) Bd hin ok hc))))))));obtain x31|o|x0|t1|M:=ok Bd hin ok1 no1;have p123:=Ba.trans p3;have R3:=R.on p123;have I3:=An.pre (p2.trans p3);obtain x11|kb3|ownb3:=(R3 []).base.own;obtain x11|kd3|Cy:=I3.own;refine W.stC (W.iB rfl (W.KA rfl rfl rfl (W.lo rfl (W.YA (R3 []).base.inst ownb3 OQ rfl rfl (W.LA rfl (W.cG (by rfl) (W.lo rfl (W.LA rfl (W.lo rfl (W.rA I3.inst Cy (gd _ (by decide)) rfl rfl ⟨rfl,?_⟩))))))))));refine (R3 _).load M.ho λh4 i4 di4 p4 Z Z Cd=>?_;obtain x11|kd4|own4:=Cd.own;have I4:=I3.pre p4;obtain x11|kd4'|own4':=I4.own;refine W.rA Cd.inst own4 (gd _ (by decide)) rfl rfl (W.cG (by rfl) (W.lo rfl (W.LA rfl (W.lo rfl (W.rA I4.inst own4' (gd _ (by decide)) rfl rfl (W.la rfl (W.en rfl ?_)))))));have sZ:XC o n.pQ=x0:=by unfold XC;rw [M.hx0];rfl
  refine JH (R.on (p123.trans p4) _) M.ho M.hx0 λh5 p5=>⟨by rfl,?_⟩;rw [sZ];obtain x02|ho|hop:=wA M.ho;have Ab:o.kQ.lookup x0=some n.pQ:=by simpa using fV M.hx0
  have Bn:=(p123.trans p4).trans p5;refine (R.on Bn _).takeW ho Ab λh6 R6 Bu kp6=>?_;obtain x11|kb6|ownb6:=R6.base.own;refine W.stC (W.iB rfl (W.KA rfl rfl rfl (W.lo rfl (W.YA R6.base.inst ownb6 NQ rfl rfl (W.LA rfl (W.cG (by rfl) (W.la rfl (W.la rfl (W.en rfl ?_)))))))));refine (R6.on (Pre.refl _) _).load M.ht1 λh7 i7 di7 p7 Z Z Bo=>?_;obtain x11|kd7|own7:=Bo.own;refine W.rA Bo.inst own7 (gd _ (by decide)) rfl rfl (W.la rfl (W.la rfl (W.em (by rfl) ?_)));obtain x02|ht1|u_:=wA M.ht1;refine (R6.on p7 _).putW ht1 M.free M.len (p64 Dg Dh.2.2) λh8 R8 fe8 kp8=>?_;have k8:Keep (foot A ns) H0 h8:=((Keep.of_pre Bn).trans kp6:Keep (foot A ns) H0 h6).trans ((Keep.of_pre p7).trans (Keep.trans' (Keep.refl _ _) kp8 λi hi=> .inl (Bu▸hi)));have I8:=(((I4.pre p5).keep kp6 Cv rY).pre p7).keep kp8 (by rw [Bu];exact Cv) (by rw [Bu];exact rY);obtain x11|kd8|own8:=I8.own;refine W.stC (W.iB rfl (W.cG (by rfl) (W.lo rfl (W.LA rfl (W.lo rfl (W.rA I8.inst own8 (gd _ (by decide)) rfl rfl (W.iA rfl (W.GA (W.iA rfl (W.cG (by rfl) (W.la rfl (W.en rfl (iC I8 (W.jA (λZ=>rfl) ⟨rfl,?_⟩))))))))))))));refine EC (R8.on (Pre.refl _) _) M.cu1 λh9 Bq R9 fe9 kp9=>?_;have Bp:foot A (mv3 ns n x o x0 t1 k1)=foot A ns:=fe9.trans (fe8.trans Bu);have k9:Keep (foot A ns) H0 h9:=k8.trans' kp9 λi hi=> .inl ((fe8.trans Bu)▸hi);have I9:=I8.keep kp9 (by rw [fe8.trans Bu];exact Cv) (by rw [fe8.trans Bu];exact rY);obtain x11|kd9|own9:=I9.own;refine W.stC (W.sA (W.lo rfl (W.asA (W.lo rfl (W.QB I9.inst own9 (sd _ (by decide)) rfl ?_)))));rw [NW];have l9:H0.length<=h9.length:=k9.1;have hdi9:di < h9.length:=CA own9;have R9':Rep ⟨h9.set di (.dict (xC {n with par:=np}) kd9),[]⟩ A hY (mv3 ns n x o x0 t1 k1) Bq zaps:=by
   have hnot:di∉foot A (mv3 ns n x o x0 t1 k1):=by rw [Bp];exact rY
   have g:∀ a∈foot A (mv3 ns n x o x0 t1 k1),∀ ob,h9[a]? =some ob->(h9.set di (.dict (xC {n with par:=np}) kd9))[a]? =some ob:=λa ha ob e=>qA (λz=>hnot (z▸ha)) e;exact {R9 with
    base:={R9.base with
     inst:=g _ (.head _) _ R9.base.inst
     own:=(by obtain x11|k|e:=R9.base.own;exact ⟨k,g _ (.tail _ (.head _)) _ e⟩)
     nts:=(by obtain x11|k|e:=R9.base.nts;exact ⟨k,g _ (.tail _ (.tail _ (.head _))) _ e⟩)
     zps:=(by obtain x11|k|e:=R9.base.zps;exact ⟨k,g _ (by exact .tail _ (.tail _ (.tail _ (.head _)))) _ e⟩)}
    root:=(by obtain x11|k|e:=R9.root;exact ⟨k,g _ (by exact .tail _ (.tail _ (.tail _ (.tail _ (.head _))))) _ e⟩)
    kQ:=λa ha=>by obtain x11|k|e:=R9.kQ a ha;exact ⟨k,g _ (by simp only [List.mem_cons,List.mem_map];exact .inr (.inr (.inr (.inr (.inr ⟨a,ha,rfl⟩))))) _ e⟩}
  have I9':Info (h9.set di (.dict (xC {n with par:=np}) kd9)) i di {n with par:=np}:=⟨qA (Ne.symm I9.ne) I9.inst,⟨kd9,RA own9⟩,I9.ne⟩;have k9':Keep (foot A ns) H0 (h9.set di (.dict (xC {n with par:=np}) kd9)):=k9.set (.inr (Bl:H0.length<=di));refine W.heap (h':=h9.set di (.dict (xC {n with par:=np}) kd9)) rfl ?_
  revert R9' I9' k9';refine genI (h9.set di (.dict (xC {n with par:=np}) kd9)) ?_;intro h10 R9' I9' k9'
  refine W.stC (W.iB rfl (W.cG (by rfl) (W.la rfl (W.la rfl (W.la rfl (W.en rfl ?_))))));obtain x02|hn3|u_:=wA M.hn3;refine (R9'.on (Pre.refl _) _).storeW2 (m:={n with par:=np}) hn3 rfl rfl rfl M.fit I9' (by rw [Bp];exact Cv) (by rw [Bp];exact rY) λh11 notes11 R11 fe11 kp11 I11=>?_;refine W.stC (W.iB rfl (W.cG (by rfl) (W.lo rfl (W.lo rfl (W.iA rfl (W.cG (by rfl) (W.la rfl (W.en rfl (iC I11 ⟨rfl,?_⟩)))))))));refine EC (R11.on (Pre.refl _) _) M.cu2 λh12 notes12 R12 fe12 Bz=>?_;refine W.stN (q Bd hin ok1 no1 o x0 t1 M h12 notes12 R12 ((k9'.trans' kp11 λi hi=> .inl (Bp▸hi):Keep (foot A ns) H0 h11).trans' Bz λi hi=> .inl ((fe11.trans Bp)▸hi)) (fe12.trans (fe11.trans Bp)))
end
end
section
section
variable {P:Prg} {s:S} {J:Ev}
theorem W.jJ{H:List O}{L:List (Str×V)}{it l i:Nat}{Q:Option V->S->Prop}(hi:H[it]? =some (.itT l i))(hl:H[l]? =some (.tup vs))(h1:∀ v,vs[i]? =some v->Q (some v) ⟨H.set it (.itT l (i+1)),L⟩)(h2:vs.length<=i->Q none ⟨H.set it .dead,L⟩):W P (λZ=>EF it) Q E ⟨H,L⟩:=by
 refine W.zA hi (W.zA hl ?_);cases e:vs[i]? with
 | some v=>exact W.eq (W.AD (CA hi) (h1 v e)) λZ=>by (try dsimp only);rw [e]
 | none=>exact W.eq (W.zD (CA hi) (h2 (dN.mp e))) λZ=>by (try dsimp only);rw [e]
theorem W.TU{H:List O}{L:List (Str×V)}{Q:Nat->S->Prop}(hn:H[n]? =some (.tup vs))(q:Q H.length ⟨H++ [.itT n 0],L⟩):W P (λZ=>oE (.ref n)) Q E ⟨H,L⟩:=W.zA hn (W.alloc q)
end
noncomputable def rmNd(ns:List Nd)(p:Int):List Nd:=ns.filter λn=>decide (n.pQ≠p)
theorem oM(ns:List Nd)(p j:Int):ndAt (rmNd ns p) j=if j=p then none else ndAt ns j:=by
 induction ns with
 | nil=>unfold rmNd ndAt;simp
 | cons n r ih=>
  have e:rmNd (n::r) p=if n.pQ≠p then n::rmNd r p else rmNd r p:=by
   unfold rmNd;rw [dH];simp
  rw [e];by_cases h:n.pQ=p
  ·rw [aJ (λz=>z h),ih,vB];by_cases h2:j=p
   ·rw [aN h2,aN h2]
   ·rw [aJ h2,aJ h2,aJ (λz:n.pQ=j=>h2 (z.symm.trans h))]
  ·rw [aN h,vB,vB,ih];by_cases h2:j=p
   ·subst h2;rw [aJ h,aN rfl,aN rfl]
   ·rw [aJ h2,aJ h2]
section
variable {b bd N Zq:Nat} {hY:Int} {hZ zaps:List (V×V)}
theorem CI(B:Base ⟨H0,L0⟩ b bd N Zq hY hZ zaps){p:Int}(h1:IA (.int p) hZ=none)(h2:IA (.int p) zaps=some v)(q:∀ h,Base ⟨h,[]⟩ b bd N Zq hY hZ (zB (.int p) zaps)->Keep [N,Zq] H0 h->Q .none {h:=h,l:=L0}):
  W (pg w) (λF=>F.call (.glob 181) [.ref b,.int p] (d+1)) Q E ⟨H0,L0⟩:=by
 obtain x03|n1|n2|n3:=B.bne;refine UN (λZ=>rfl) B h1 h2 λk hk=>?_;obtain x11|k1|e1:=B.own;obtain x11|k2|e2:=B.nts;have hne:=B.ne;have hl:=TC (.int p) zaps;have hzk:=B.zk;exact q _ {inst:=qA n3 B.inst,own:=⟨k1,qA (Ne.symm hne.2.1) e1⟩,nts:=⟨k2,qA (Ne.symm hne.2.2) e2⟩,zps:=⟨_,RA hk⟩,nk:=B.nk,zk:=⟨BI hzk.1,aE (TC _ _) hzk.2⟩,ne:=hne} ((Keep.refl _ _).set (.inl (.tail _ (.head _))))
theorem HL(B:Base ⟨H0,L0⟩ b bd N Zq hY hZ zaps){p:Int}(h1:IA (.int p) hZ=some v)(q:∀ h,Base ⟨h,[]⟩ b bd N Zq hY (zB (.int p) hZ) zaps->Keep [N,Zq] H0 h->Q .none {h:=h,l:=L0}):
  W (pg w) (λF=>F.call (.glob 181) [.ref b,.int p] (d+1)) Q E ⟨H0,L0⟩:=by
 obtain x03|n1|n2|n3:=B.bne;refine IL (λZ=>rfl) B h1 λk hk=>?_;obtain x11|k1|e1:=B.own;obtain x11|k2|e2:=B.zps;have hne:=B.ne;have hl:=TC (.int p) hZ;have hnk:=B.nk;exact q _ {inst:=qA n2 B.inst,own:=⟨k1,qA (Ne.symm hne.1) e1⟩,nts:=⟨_,RA hk⟩,zps:=⟨k2,qA hne.2.2 e2⟩,nk:=⟨BI hnk.1,aE (TC _ _) hnk.2⟩,zk:=B.zk,ne:=hne} ((Keep.refl _ _).set (.inl (.head _)))
end
section
variable {A:Adr} {hY:Int} {hZ zaps:List (V×V)}
theorem Rep.dropped(R:Rep ⟨H0,L0⟩ A hY ns hZ zaps){p:Int}(hp:p % 3=1)(B:Base ⟨h,[]⟩ A.b A.bd A.N A.Zq hY (zB (.int p) hZ) (zB (.int (p - 1)) (zB (.int (p - 2)) zaps)))(Ax:4<=p)(kp:Keep [A.N,A.Zq] H0 h):
  ∃ hZ' zaps',Rep ⟨h,[]⟩ A hY (rmNd ns p) hZ' zaps'/\(∀ i∈foot A (rmNd ns p),i∈foot A ns):=by
 have nd:=R.addr;have pZ:(rmNd ns p).Sublist ns:=List.filter_sublist;have fsub:(foot A (rmNd ns p)).Sublist (foot A ns):=by
  unfold foot;exact ((((((pZ.map _).cons_cons _).cons_cons _).cons_cons _).cons_cons _).cons_cons _)
 have l1:=TC (.int p) hZ;have l2:=TC (.int (p - 1)) (zB (.int (p - 2)) zaps);have l3:=TC (.int (p - 2)) zaps;have hlens:=R.lens;have hne:∀ a∈rmNd ns p,a∈ns/\a.pQ≠p:=λa ha=>⟨pZ.subset ha,by simpa using (cN.mp ha).2⟩;refine i22 _ _ ({base:=B,hnotes:=?_,nnd:=((jU _ _).map _).nodup R.nnd,znames:=?_,zkids:=?_,zprops:=?_,znone:=?_,lens:=⟨bD (cO.mpr l1) hlens.1,bD (cO.mpr (aE l2 l3)) hlens.2⟩,root:=?_,kQ:=?_,fit:=λa ha=>R.fit a (pZ.subset ha),kok:=λa ha=>R.kok a (pZ.subset ha),addr:=fsub.nodup nd,places:=λa ha=>R.places a (pZ.subset ha),pnd:=(pZ.map _).nodup R.pnd,low:=R.low}) λi hi=>fsub.subset hi
 ·intro j;rw [oM];by_cases h:j=p
  ·subst h;rw [aN rfl,CJ _ _ R.nnd];rfl
  ·rw [aJ h,ZA _ _ _ (λz=>h (vint z).symm),R.hnotes]
 ·rw [ZA _ _ _ (λz=>mJ1 (by assumption:p % 3=1) (by decide) (vint z)),ZA _ _ _ (λz=>mJ2 (by assumption:p % 3=1) (by decide) (vint z))];exact R.znames
 ·intro a ha;obtain x02|ha|h1:=hne a ha;have h2:=R.places a ha;rw [ZA _ _ _ (λz=>mA (by assumption:p % 3=1) h2.1 (vint z)),ZA _ _ _ (λz=>mC h1 (vint z))];exact R.zkids a ha
 ·intro a ha;obtain x02|ha|h1:=hne a ha;have h2:=R.places a ha;rw [ZA _ _ _ (λz=>mD h1 (vint z)),ZA _ _ _ (λz=>mB (by assumption:p % 3=1) h2.1 (vint z))];exact R.zprops a ha
 ·intro j h1 h2;rw [ZA _ _ _ (λz=>mJ1 (by assumption:p % 3=1) h1 (vint z)),ZA _ _ _ (λz=>mJ2 (by assumption:p % 3=1) h1 (vint z))];exact R.znone j h1 h2
 ·obtain x11|k|e:=R.root;exact ⟨k,kp.2 _ _ e λhi=>DJ nd _ (.head _) (.tail _ hi)⟩
 ·intro a ha;obtain x11|k|e:=R.kQ a (pZ.subset ha);exact ⟨k,kp.2 _ _ e λhi=>DJ nd _ (.tail _ (bI (pZ.subset ha))) (.tail _ hi)⟩
structure DropOk(ns:List Nd)(n o:Nd)(x0:Str)(k1:Nat):Prop where
 ho:ndAt ns n.par=some o
 hx0:((BA o).find? λy=>decide (o.kQ.lookup y=some n.pQ))=some x0
 cu1:CuOk k1 (mv1 ns o x0) n.par 0 (0 - n.share)
 hn3:∃ n3,ndAt (tA k1 (mv1 ns o x0) n.par 0 (0 - n.share)) n.pQ=some n3
theorem TN(R:Rep ⟨H0,L0⟩ A hY ns hZ zaps){n:Nd}(hp:ndAt ns n.pQ=some n){k1:Nat}
  (ok:n.par≠0->n.kQ= []->∃ o x0,DropOk ns n o x0 k1) {Q:V->S->Prop}
  (q:n.par≠0->n.kQ= []->∀ o x0,DropOk ns n o x0 k1->∀ h hZ' zaps',Rep ⟨h,[]⟩ A hY (rmNd (tA k1 (mv1 ns o x0) n.par 0 (0 - n.share)) n.pQ) hZ' zaps'->Keep (foot A ns) H0 h->(∀ i∈foot A (rmNd (tA k1 (mv1 ns o x0) n.par 0 (0 - n.share)) n.pQ),i∈foot A ns)->Q .none {h:=h,l:=L0})
  (e0:∀ h,Pre H0 h->n.par=0->E 111 {h:=h,l:=L0}) (e1:∀ h,Pre H0 h->n.par≠0->n.kQ≠ []->E 75 {h:=h,l:=L0}):
  W (pg w) (λF=>F.call (.glob 410) [.ref A.b,.int n.pQ] (d+6)) Q E ⟨H0,L0⟩:=by
 obtain x02|hn|u_:=wA hp;have Dg:=R.places n hn;have Dh:=R.low;refine W.f (P:=pg w) rfl ?_;intro P J J' E' L';refine W.stC (W.sA (W.cG (by rfl) (W.la rfl (W.la rfl (W.en rfl ?_)))));refine (R.loc _).load hp λh1 i di p1 li Bl An=>W.asN rfl ?_;have li:H0.length<=i:=li;have Bl:H0.length<=di:=Bl;have Cv:i∉foot A ns:=λhi=>cB.mpr li (R.len _ hi);have rY:di∉foot A ns:=λhi=>cB.mpr Bl (R.len _ hi);obtain x11|kd|Cw:=An.own;refine W.stC (W.sIf (W.xA rfl (W.LA rfl (W.lo rfl (W.rA An.inst Cw (gd _ (by decide)) rfl rfl (W.iA rfl (W.jA (a:=decide (n.par=0)) (λZ=>rfl) ?_)))))));by_cases Bd:n.par=0
 ·rw [aF Bd];exact W.stC (W.lC (C:=111) (by rfl) rfl (by rfl) (W.iA rfl (e0 _ p1 Bd)))
 rw [bE Bd];refine W.stN ?_;have R1:=R.on p1;obtain x11|kb1|ownb1:=(R1 []).base.own;obtain x11|kk|hkk:=(R1 []).kQ n hn;have hsv:xD ((HD n).map (·.1))=some ((BA n).map V.str):=by
  have e:=PF (n.kQ.map (·.1));rw [aP] at e;rw [show (HD n).map (·.1)=n.kQ.map (V.str∘λx=>x.1) from by unfold HD;rw [aP];rfl];exact e
 refine W.stC (W.sIf (W.xA rfl (W.KA rfl rfl rfl (W.lo rfl (W.YA (R1 []).base.inst ownb1 OJ rfl rfl (W.LA rfl (W.lo rfl (W.rA An.inst Cw (gd _ (by decide)) rfl rfl ⟨rfl,?_⟩))))))));refine nM (λZ=>rfl) (λZ=>rfl) (R1 _).base (R.zkids n hn) hkk (by simpa using (R.kok n hn).1) hsv (W.list rfl rfl (W.mH (lA oA) oA ?_));have p2:Pre H0 (h1++ [O.list ((BA n).map V.str)]++ [.list []]):=p1.trans ((Pre.app _ _).trans (Pre.app _ _));have hemp:((BA n).map V.str).isEmpty=n.kQ.isEmpty:=by
  have e1:((BA n).map V.str).length=n.kQ.length:=by unfold BA;rw [aO,AG,aO]
  cases hk:n.kQ with
  | nil=>rw [hk] at e1;simp at e1;simp [e1]
  | cons a r=>
   rw [hk] at e1;cases hk2:(BA n).map V.str with
   | nil=>rw [hk2] at e1;simp at e1
   | cons=>rfl
 rw [hemp];cases hk:n.kQ with
 | cons a r=>
  exact W.stC (W.lC (C:=75) (by rfl) rfl (by rfl) (W.iA rfl (e1 _ p2 Bd (by rw [hk];exact dB _ _))))
 | nil=>
  obtain x21|o|x0|M:=ok Bd hk;refine W.stN ?_;have I3:=(An.pre (Pre.app h1 [O.list ((BA n).map V.str)])).pre (Pre.app _ [O.list []])
  revert p2 I3;refine genI (h1++ [O.list ((BA n).map V.str)]++ [O.list []]) ?_;intro h3 p2 I3
  have R3:=R.on p2;obtain x11|kb3|ownb3:=(R3 []).base.own;obtain x11|kd3|Cy:=I3.own;refine W.stC (W.iB rfl (W.KA rfl rfl rfl (W.lo rfl (W.YA (R3 []).base.inst ownb3 OQ rfl rfl (W.LA rfl (W.cG (by rfl) (W.lo rfl (W.LA rfl (W.lo rfl (W.rA I3.inst Cy (gd _ (by decide)) rfl rfl ⟨rfl,?_⟩))))))))));refine (R3 _).load M.ho λh4 i4 di4 p4 Z Z Cd=>?_;obtain x11|kd4|own4:=Cd.own;have I4:=I3.pre p4;obtain x11|kd4'|own4':=I4.own;refine W.rA Cd.inst own4 (gd _ (by decide)) rfl rfl (W.cG (by rfl) (W.lo rfl (W.LA rfl (W.lo rfl (W.rA I4.inst own4' (gd _ (by decide)) rfl rfl (W.la rfl (W.en rfl ?_)))))));have sZ:XC o n.pQ=x0:=by unfold XC;rw [M.hx0];rfl
  refine JH (R.on (p2.trans p4) _) M.ho M.hx0 λh5 p5=>⟨by rfl,?_⟩;rw [sZ];obtain x02|ho|hop:=wA M.ho;have Ab:o.kQ.lookup x0=some n.pQ:=by simpa using fV M.hx0
  have Bn:=(p2.trans p4).trans p5;refine (R.on Bn _).takeW ho Ab λh6 R6 Bu kp6=>?_;have I6:=(I4.pre p5).keep kp6 Cv rY;obtain x11|kd6|own6:=I6.own;refine W.stC (W.iB rfl (W.cG (by rfl) (W.lo rfl (W.LA rfl (W.lo rfl (W.rA I6.inst own6 (gd _ (by decide)) rfl rfl (W.iA rfl (W.GA (W.iA rfl (W.cG (by rfl) (W.la rfl (W.en rfl (iC I6 (W.jA (λZ=>rfl) ⟨rfl,?_⟩))))))))))))));refine EC (R6.on (Pre.refl _) _) M.cu1 λh9 Bq R9 fe9 kp9=>?_;have I9:=I6.keep kp9 (by rw [Bu];exact Cv) (by rw [Bu];exact rY);obtain x11|kd9|own9:=I9.own;obtain x11|n3|hn3:=M.hn3;obtain x02|wZ|hn3p:=wA hn3;refine W.stC (W.oH rfl (W.TB rfl rfl (W.LA rfl (W.lo rfl (W.rA I9.inst own9 (gd _ (by decide)) rfl rfl (W.LA rfl (W.lo rfl (W.rA I9.inst own9 (gd _ (by decide)) rfl rfl (W.lo rfl (W.TU oA ?_))))))))));refine genE (O.tup [V.int (n.pQ - 2),.int (n.pQ - 1),.int n.pQ]) ?_;intro X hX;have hlen:(h9++ [X]).length=h9.length+1:=by exact bA
  (try dsimp only)
  rw [hlen];have R10:=R9.on ((Pre.app h9 [X]).trans (Pre.app _ [.itT h9.length 0]));have t0:(h9++ [X]++ [.itT h9.length 0])[h9.length]? =some X:=lA oA;have it0:(h9++ [X]++ [.itT h9.length 0])[h9.length+1]? =some (.itT h9.length 0):=by rw [<-hlen];exact oA
  have lN:A.N < h9.length:=R9.len _ (.tail _ (.tail _ (.head _)));have lZ:A.Zq < h9.length:=R9.len _ (by exact .tail _ (.tail _ (.tail _ (.head _))));have none1:IA (.int (n.pQ - 2)) Bq=none:=by
   rw [R9.hnotes,DF (λa ha z=>mJ2 Dg.1 (R9.places a ha).1 z.symm)];rfl
  have none2:IA (.int (n.pQ - 1)) Bq=none:=by
   rw [R9.hnotes,DF (λa ha z=>mJ1 Dg.1 (R9.places a ha).1 z.symm)];rfl
  have z1:=R9.zkids n3 wZ;obtain x11|v2|z2:=eI.mp (R9.zprops n3 wZ);rw [hn3p] at z1 z2;have z3:IA (.int n.pQ) Bq=some (.bytes (rowB n3.row)):=by rw [R9.hnotes,hn3];rfl
  subst hX
  revert R10 t0 it0;refine genE (h9++ [O.tup [V.int (n.pQ - 2),.int (n.pQ - 1),.int n.pQ]]++ [O.itT h9.length 0]) ?_;intro h10 hh10 R10 t0 it0
  have p910:Pre h9 h10:=by subst hh10;exact (Pre.app _ _).trans (Pre.app _ _)
  refine W.foT (W.jJ it0 t0 (λv hv=>?_) λAr=>by simp at Ar);cases hv;have B1:=(R10 []).base.on (Pre.refl h10) [];have B1':Base ⟨h10.set (h9.length+1) (.itT h9.length 1),[]⟩ A.b A.bd A.N A.Zq hY Bq zaps:=(R9.on (p910.set (cE _)) []).base;have t1:(h10.set (h9.length+1) (.itT h9.length 1))[h9.length]? =some (.tup [V.int (n.pQ - 2),.int (n.pQ - 1),.int n.pQ]):=qA (cK _) t0;have it1:(h10.set (h9.length+1) (.itT h9.length 1))[h9.length+1]? =some (.itT h9.length 1):=RA it0;have k11:Keep [A.N,A.Zq] h9 (h10.set (h9.length+1) (.itT h9.length 1)):=Keep.of_pre (p910.set (cE _));refine W.jF (W.asN rfl ?_);refine W.heap (h':=h10.set (h9.length+1) (.itT h9.length 1)) rfl ?_
  revert B1' t1 it1 k11;refine genI (h10.set (h9.length+1) (.itT h9.length 1)) ?_;intro h11 B1' t1 it1 k11
  obtain x11|kb11|ownb11:=B1'.own;refine W.stC (W.iB rfl (W.KA rfl rfl rfl (W.lo rfl (W.YA B1'.inst ownb11 iM rfl rfl (W.la rfl (W.em (by rfl) ?_))))));refine CI (B1'.loc _) none1 z1 λh12 B2 Bz=>W.stN ?_;have ni1:h9.length∉ [A.N,A.Zq]:=nin2 (aV lN) (aV lZ);have ni2:h9.length+1∉ [A.N,A.Zq]:=nin2 (aV (bW lN)) (aV (bW lZ));have t2:=Bz.2 _ _ t1 ni1;have it2:=Bz.2 _ _ it1 ni2;have k12:=k11.trans Bz;refine W.foT (W.jJ it2 t2 (λv hv=>?_) λAr=>by simp at Ar);cases hv;have l12:h9.length<=h12.length:=k12.1;have step:∀ {hx:List O} {N' Z':List (V×V)} (j:Nat),Base ⟨hx,[]⟩ A.b A.bd A.N A.Zq hY N' Z'->Base ⟨hx.set (h9.length+1) (.itT h9.length j),[]⟩ A.b A.bd A.N A.Zq hY N' Z':=λ{hx N' Z'} j B=>by
   obtain x11|k1|e1:=B.own;obtain x11|k2|e2:=B.nts;obtain x11|k3|e3:=B.zps;have lb:A.b < h9.length:=R9.len _ (.head _);have lbd:A.bd < h9.length:=R9.len _ (.tail _ (.head _));exact {inst:=qA (aV (bW lb)) B.inst,own:=⟨k1,qA (aV (bW lbd)) e1⟩,nts:=⟨k2,qA (aV (bW lN)) e2⟩,zps:=⟨k3,qA (aV (bW lZ)) e3⟩,nk:=B.nk,zk:=B.zk,ne:=B.ne}
  have B2':=step 2 B2;have t3:(h12.set (h9.length+1) (.itT h9.length 2))[h9.length]? =some (.tup [V.int (n.pQ - 2),.int (n.pQ - 1),.int n.pQ]):=qA (cK _) t2;have it3:(h12.set (h9.length+1) (.itT h9.length 2))[h9.length+1]? =some (.itT h9.length 2):=RA it2;have k13:Keep [A.N,A.Zq] h9 (h12.set (h9.length+1) (.itT h9.length 2)):=k12.set (.inr (cE _));refine W.jF (W.asN rfl ?_);refine W.heap (h':=h12.set (h9.length+1) (.itT h9.length 2)) rfl ?_
  revert B2' t3 it3 k13;refine genI (h12.set (h9.length+1) (.itT h9.length 2)) ?_;intro h13 B2' t3 it3 k13
  obtain x11|kb13|ownb13:=B2'.own;refine W.stC (W.iB rfl (W.KA rfl rfl rfl (W.lo rfl (W.YA B2'.inst ownb13 iM rfl rfl (W.la rfl (W.em (by rfl) ?_))))));refine CI (B2'.loc _) none2 (v:=v2) (by rw [ZA _ _ _ (λz=>m21 (vint z))];exact z2) λh14 B4 kp14=>W.stN ?_;have t4:=kp14.2 _ _ t3 ni1;have it4:=kp14.2 _ _ it3 ni2;have k14:=k13.trans kp14;refine W.foT (W.jJ it4 t4 (λv hv=>?_) λAr=>by simp at Ar);cases hv;have l14:h9.length<=h14.length:=k14.1;have B4':=step 3 B4;have t5:(h14.set (h9.length+1) (.itT h9.length 3))[h9.length]? =some (.tup [V.int (n.pQ - 2),.int (n.pQ - 1),.int n.pQ]):=qA (cK _) t4;have it5:(h14.set (h9.length+1) (.itT h9.length 3))[h9.length+1]? =some (.itT h9.length 3):=RA it4;have k15:Keep [A.N,A.Zq] h9 (h14.set (h9.length+1) (.itT h9.length 3)):=k14.set (.inr (cE _));refine W.jF (W.asN rfl ?_);refine W.heap (h':=h14.set (h9.length+1) (.itT h9.length 3)) rfl ?_
  revert B4' t5 it5 k15;refine genI (h14.set (h9.length+1) (.itT h9.length 3)) ?_;intro h15 B4' t5 it5 k15
  obtain x11|kb15|ownb15:=B4'.own;refine W.stC (W.iB rfl (W.KA rfl rfl rfl (W.lo rfl (W.YA B4'.inst ownb15 iM rfl rfl (W.la rfl (W.em (by rfl) ?_))))));refine HL (B4'.loc _) z3 λh16 B6 kp16=>W.stN ?_;have k16:=k15.trans kp16;refine W.foT (W.jJ (kp16.2 _ _ it5 ni2) (kp16.2 _ _ t5 ni1) (λv hv=>by cases hv) λZ=>W.stN ?_);have l16:h9.length<=h16.length:=k16.1;have B6':Base ⟨h16.set (h9.length+1) .dead,[]⟩ A.b A.bd A.N A.Zq hY (zB (.int n.pQ) Bq) (zB (.int (n.pQ - 1)) (zB (.int (n.pQ - 2)) zaps)):=by
   obtain x11|k1|e1:=B6.own;obtain x11|k2|e2:=B6.nts;obtain x11|k3|e3:=B6.zps;have lb:A.b < h9.length:=R9.len _ (.head _);have lbd:A.bd < h9.length:=R9.len _ (.tail _ (.head _));exact {inst:=qA (aV (bW lb)) B6.inst,own:=⟨k1,qA (aV (bW lbd)) e1⟩,nts:=⟨k2,qA (aV (bW lN)) e2⟩,zps:=⟨k3,qA (aV (bW lZ)) e3⟩,nk:=B6.nk,zk:=B6.zk,ne:=B6.ne}
  have k17:Keep [A.N,A.Zq] h9 (h16.set (h9.length+1) .dead):=k16.set (.inr (cE _));obtain x22|hZ'|zaps'|R17|fsub:=R9.dropped Dg.1 B6' Dg.2.1 k17;refine q Bd hk o x0 M _ hZ' zaps' R17 ((((Keep.of_pre Bn).trans kp6:Keep (foot A ns) H0 h6).trans' kp9 λi hi=> .inl (Bu▸hi):Keep (foot A ns) H0 h9).trans' k17 λi hi=> .inl ?_) λi hi=>(fe9.trans Bu)▸fsub i hi;simp only [List.mem_cons,List.not_mem_nil,or_false] at hi;rcases hi with rfl | rfl <;> simp
end
end
section
noncomputable def JF(z:Nat):Nd:=⟨4,0,0,0,0,z,[]⟩
section
variable {A:Adr}
theorem vM(B:Base ⟨H0,L0⟩ A.b A.bd A.N A.Zq 1 [] [(.int 1,.ref A.zn)])(hz:H0[A.zn]? =some (.dict [] k))(e:∀ h,Pre H0 h->E 51 {h:=h,l:=L0}):
  W (pg w) (λF=>F.call (.glob 318) [.ref A.b] (d+3)) Q E ⟨H0,L0⟩:=by
 obtain x11|k1|own:=B.own;refine W.f (P:=pg w) rfl ?_;intro P J J' E' L';refine W.stC (W.sA (W.KA rfl rfl rfl (W.lo rfl (W.YA B.inst own yN rfl rfl (W.gl (by rfl) (W.gl (by rfl) ⟨by rfl,?_⟩))))));refine HS (λZ=>rfl) (λZ=>rfl) (B.loc _) (by rfl) hz rfl ?_;refine W.asN rfl (W.stC (W.sIf (W.xA rfl (W.lo rfl (W.iA rfl (W.jA (λZ=>rfl) ?_))))));exact W.stC (W.lC (C:=51) (by rfl) rfl (by rfl) (W.iA rfl (e _ (Pre.refl _))))
theorem ZL(B:Base ⟨H0,L0⟩ A.b A.bd A.N A.Zq 1 [] [(.int 1,.ref A.zn)])(hz:H0[A.zn]? =some (.dict [] k))(nd: [A.b,A.bd,A.N,A.Zq,A.zn].Nodup)
  (q:∀ h z hZ zaps,Rep ⟨h,[]⟩ A 4 [JF z] hZ zaps->Keep [A.bd,A.N,A.Zq,A.zn] H0 h->H0.length<=z->Q (.int 4) {h:=h,l:=L0}):
  W (pg w) (λF=>F.call (.glob 311) [.ref A.b] (d+4)) Q E ⟨H0,L0⟩:=by
 have lzn:=CA hz;have nd0:=nd;simp only [List.nodup_cons,List.mem_cons,List.not_mem_nil,or_false,not_or] at nd;refine W.f (P:=pg w) rfl ?_;intro P J J' E' L';refine W.stC (W.sA (W.cG (by rfl) (W.la rfl (W.lk rfl (W.lk rfl (W.en rfl ?_))))));refine KK (B.loc _) (cH ..) (cH ..) (by decide) (by decide) λh1 z1 z2 B1 kp1 e1 hz1=>W.asN rfl ?_;have hz1:H0.length<=z1:=hz1;obtain x11|k1|Cw:=B1.own;have hzn1:h1[A.zn]? =some (.dict [] k):=kp1.2 _ _ hz (nin3 (Ne.symm nd.2.1.2.2) (Ne.symm nd.2.2.1.2) (Ne.symm nd.2.2.2.1));refine W.stC (W.iB rfl (W.KA rfl rfl rfl (W.lo rfl (W.YA B1.inst Cw NQ rfl rfl (W.gl (by rfl) (W.gl (by rfl) (W.la rfl (W.em (by rfl) ?_))))))));refine PW (λZ=>rfl) (λZ=>rfl) (B1.loc _) (z:=A.zn) (by rfl) hzn1 rfl (by decide) (by decide) ?_;refine W.stC (W.pA (W.lo rfl ?_));have e2:KX (.str "root") (.int 4) [] k= .dict [(.str "root",.int 4)] (k+1):=rfl;refine q _ z1 (putK (.int 4) (.bytes (rowB [0,0,2,3,0,0,0,0,0,0])) []) (putK (.int 3) (.ref z2) (putK (.int 2) (.ref z1) [(.int 1,.ref A.zn)])) ?_ ((Keep.trans (b:=h1) (kp1.sub (List.sublist_append_left [_,_,_] [_])) (Keep.refl _ _)).set (.inl (by exact .tail _ (.tail _ (.tail _ (.head _)))))) hz1;have lb:=CA B.inst;have lbd:=CA B.own.choose_spec;have lN:=CA B.nts.choose_spec;have lZ:=CA B.zps.choose_spec;obtain x11|k2|e5:=B1.nts;obtain x11|k3|e6:=B1.zps;have B2:Base ⟨h1.set A.zn (.dict [(.str "root",.int 4)] (k+1)),[]⟩ A.b A.bd A.N A.Zq 4 (putK (.int 4) (.bytes (rowB [0,0,2,3,0,0,0,0,0,0])) []) (putK (.int 3) (.ref z2) (putK (.int 2) (.ref z1) [(.int 1,.ref A.zn)])):=
  {inst:=qA (Ne.symm nd.1.2.2.2) B1.inst,own:=⟨k1,qA (Ne.symm nd.2.1.2.2) Cw⟩,nts:=⟨k2,qA (Ne.symm nd.2.2.1.2) e5⟩,zps:=⟨k3,qA (Ne.symm nd.2.2.2.1) e6⟩,nk:=⟨by rfl,(by decide:1<=900)⟩,zk:=⟨by rfl,(by decide:3<=900)⟩,ne:=B1.ne}
 have hrow:(JF z1).row= [0,0,2,3,0,0,0,0,0,0]:=rfl;refine {base:=B2,hnotes:=?_,nnd:=(bN.mpr ⟨cR,gH⟩: [V.int 4].Nodup),znames:=by rfl,zkids:=?_,zprops:=?_,znone:=?_,lens:=(by decide:(1:Int)<=4/\(3:Int)<=4),root:=⟨k+1,RA hzn1⟩,kQ:=?_,fit:=?_,kok:=?_,addr:=?_,places:=?_,pnd:=by simp,low:=by decide}
 ·intro p;rw [uB,vB];by_cases h:p=4
  ·subst h;rw [aN rfl,aN (show (JF z1).pQ=4 from rfl),Option.map_some,hrow]
  ·rw [aJ (λz=>h (vint z).symm),aJ (λz:(JF z1).pQ=p=>h z.symm)];rfl
 ·intro n hn;rw [aH.mp hn];rfl
 ·intro n hn;rw [aH.mp hn];rfl
 ·intro p h1 h2;rw [uB,uB,aJ (λz=>p3m h1 (by decide) (vint z)),aJ (λz=>p3m h1 (by decide) (vint z))];rw [UB];rw [aJ (λz=>h2 (vint z).symm)];rfl
 ·intro n hn;rw [aH.mp hn];exact ⟨0,qA (bG (aT lzn hz1)) e1⟩
 ·intro n hn;rw [aH.mp hn];rw [Nd.Fit,hrow];exact pR (par:=0) (hY:=1) (by decide) (by decide) (by decide)
 ·intro n hn;rw [aH.mp hn];exact ⟨(by decide:0 < 64),gH⟩
 ·show ([A.b,A.bd,A.N,A.Zq,A.zn]++ [z1]).Nodup;refine dJ.mpr ⟨nd0,by simp,?_⟩;intro a ha b hb z;exact aS (mc (p:=(· < H0.length)) lb (mc lbd (mc lN (mc lZ (mc lzn mn)))) a ha) (cB.mpr (by rw [z,aH.mp hb];exact hz1))
 ·intro n hn;rw [aH.mp hn];show (4:Int) % 3=1/\4<=(4:Int)/\(4:Int)<=4
  decide
end
end
section
structure Rw where
 pQ:Int
 par:Int
 name:Str
 used:Int
 res:Int
 rr:Nat
noncomputable def rwAt(rs:List Rw)(p:Int):Option Rw:=rs.find? λr=>decide (r.pQ=p)
theorem HA{rs:List Rw}{p:Int}{r:Rw}(h:rwAt rs p=some r):r∈rs/\r.pQ=p:=⟨gF h,by simpa using fV h⟩
noncomputable abbrev Rw.lst(r:Rw):List V:= [.int r.par,.str r.name,.int r.used,.int r.res]
noncomputable abbrev UA(rs:List Rw):List (V×V):=rs.map λr=>(.int r.pQ,.ref r.rr)
structure Rows(h:List O)(R:Nat)(rs:List Rw):Prop where
 dict:∃ k,h[R]? =some (.dict (UA rs) k)
 rows:∀ r∈rs,h[r.rr]? =some (.list r.lst)
 nd:(R::rs.map (·.rr)).Nodup
 pnd:(rs.map (·.pQ)).Nodup
 len:rs.length<=40
noncomputable abbrev QG(R:Nat)(rs:List Rw):List Nat:=R::rs.map (·.rr)
theorem Rows.pre{h':List O}{R:Nat}{rs:List Rw}(x:Rows h R rs)(p:Pre h h'):Rows h' R rs:={x with dict:=(by obtain x11|k|e:=x.dict;exact ⟨k,p.get e⟩),rows:=λr hr=>p.get (x.rows r hr)}
theorem Rows.keep{F:List Nat}{h':List O}{R:Nat}{rs:List Rw}(x:Rows h R rs)(p:Keep F h h')(hf:∀ i∈QG R rs,i∉F):Rows h' R rs:=
 {x with dict:=(by obtain x11|k|e:=x.dict;exact ⟨k,p.2 _ _ e (hf R (.head _))⟩),rows:=λr hr=>p.2 _ _ (x.rows r hr) (hf r.rr (by simp only [List.mem_cons,List.mem_map];exact .inr (i12 r hr rfl)))}
theorem pC(rs:List Rw):yB (UA rs)=true:=by
 unfold yB;rw [eB];intro e he;obtain x12|r|u_|rfl:=aL.mp he;rfl
theorem KF(rs:List Rw)(p:Int):IA (.int p) (UA rs)=(rwAt rs p).map λr=> .ref r.rr:=by
 induction rs with
 | nil=>rfl
 | cons r t ih=>
  unfold rwAt;rw [fT];unfold UA;rw [bJ];rw [UB];by_cases h:r.pQ=p
  ·rw [aN (by rw [h]),aF h];rfl
  ·rw [aJ (λz=>h (vint z)),bE h];exact ih
theorem LF(rs:List Rw)(p:Int):(wD (.int p) && uA (.int p) (UA rs))=true:=VB (pC rs) p
noncomputable def MD(rs:List Rw):Nat->Int->Prop
 | 0,p=>p=0
 | k+1,p=>p=0\/∃ r,rwAt rs p=some r/\MD rs k r.par
noncomputable def upR(rs:List Rw):Nat->Int->List Int
 | 0,_=> []
 | k+1,p=>if p=0 then [] else match rwAt rs p with
  | some r=>p::upR rs k r.par
  | none=> []
section
variable {P:Prg} {s:S} {J:Ev}
theorem W.PA{o1 i1 i2:Expr}{p1 p2:Pos}{R:Nat}{rs:List Rw}{p:Int}{r:Rw}{j:Int}(X:Rows s.h R rs)(hp:rwAt rs p=some r)(hj:0<=j/\j < 2 ^ 62)(hv:r.lst[j.toNat]? =some v)
  (h:W P (λF=>F.ev o1 J) (λa s1=>a= .ref R/\s1=s/\W P (λF=>F.ev i1 J) (λb s2=>b= .int p/\s2=s/\W P (λF=>F.ev i2 J) (λc s3=>c= .int j/\s3=s/\Q v s) E s) E s) E s) (hi:autoParam (vC i2=none) aR) (hi1:autoParam (vC i1=none) aR):
  W P (λF=>F.ev (.Subscript (.Subscript o1 i1 p1) i2 p2) J) Q E s:=by
 refine W.mK hi (W.mK hi1 (h.post λa s1 ii=>?_));obtain x03|ha|hs|h:=ii;subst ha;rw [hs];refine h.post λb s2 ii=>?_;obtain x03|hb|Ci|h:=ii;subst hb;rw [Ci];obtain x11|k|e:=X.dict;refine W.WI e (LF rs p) (by rw [KF,hp];rfl) ?_;refine h.post λc s3 ii=>?_;obtain x03|hc|hs3|q:=ii;subst hc;rw [hs3];exact W.RE (X.rows r (HA hp).1) hj hv q
theorem W.RV{l r r2:Expr}{op op2:CmpOp}(hn:(EB r && EB r2)=true)(h:W P (λF=>F.ev l J) (λa s1=>W P (λF=>F.ev r J) (λb s2=>W P (λZ=>cmpM op a b) (λk s3=>if k=true then W P (λF=>F.ev r2 J) (λc s4=>W P (λZ=>cmpM op2 b c) (λk s5=>Q (.bool k) s5) E s4) E s3 else Q (.bool false) s3) E s2) E s1) E s):
  W P (λF=>F.ev (.Compare l [op,op2] [r,r2] p) J) Q E s:=
 W.ev (W.AA (by simpa using hn) (W.bind (h.post λZ Z h=>W.bind (W.bind (h.post λZ Z h=>W.bind (h.post λk Z h=>by induction k;exact W.pure (W.pure h);exact W.bind (h.post λZ Z h=>h.post λZ Z h=>W.pure h)))))))
theorem W.NU{x y:Expr}{r:List Expr}(h:W P (λF=>F.ev x J) (λv s1=>W P (λZ=>IC v) (λb s2=>if b=true then W P (λF=>qJ F J .And (y::r)) Q E s2 else Q v s2) E s1) E s):W P (λF=>qJ F J .And (x::y::r)) Q E s:=
 W.bind (h.post λv Z h=>W.bind (h.post λb Z h=>by induction b;exact W.pure h;exact h))
end
section
variable {R:Nat} {rs:List Rw}
theorem BE(X:Rows H0 R rs){p:Int}(hu:MD rs k p)(hk:k<=1000)(q:∀ h r,Pre H0 h->H0.length<=r->h[r]? =some (.list ((upR rs k p).map V.int))->Q (.ref r) {h:=h,l:=L0}):
  W (pg w) (λF=>F.call (.glob 441) [.ref R,.int p] (d+1)) Q E ⟨H0,L0⟩:=by
 refine W.f (P:=pg w) rfl ?_;intro P J J' E' L';refine W.stC (W.sA (W.list rfl rfl (W.asN rfl ?_)));refine genE (H0.length) ?_;intro m hm;have z0:(H0++ [O.list []])[m]? =some (.list (([]:List Int).map V.int)):=by subst hm;exact oA
 (try dsimp only)
 refine W.stC (W.mF (W.whI (λj s'=>Pre H0 s'.h/\has s'.l "rows" (.ref R)/\has s'.l "found" (.ref m)/\∃ c acc,has s'.l "place" (.int c)/\MD rs j c/\s'.h[m]? =some (.list (acc.map V.int))/\acc.length+j<=k/\upR rs k p=acc++upR rs j c) ?_ k _ (i04 (Pre.app _ _) rfl (by subst hm;rfl) ⟨p,[],rfl,hu,z0,by exact bV (cW _),rfl⟩)));intro j s' ii;obtain x04|i1|i2|i3|Dn:=ii;obtain x24|c|acc|i4|i5|i6|Do:=Dn;obtain x02|i7|i8:=Do;refine W.xA rfl (W.lo i4 (W.iA rfl (W.jA (a:=!decide (c=0)) (λZ=>rfl) ?_)));by_cases hc:c=0
 ·rw [aF hc];have:upR rs j c= []:=by
   induction j using nCq with
   | zero=>rfl
   | succ j=>show (if c=0 then [] else _)= [];rw [aN hc]
  rw [this,eW] at i8;exact W.stC (W.pA (W.lo i3 (q _ _ i1 (bV hm) (by rw [i8];exact i6))))
 ·rw [bE hc]
  induction j using nCq with
  | zero=>exact aS i5 hc
  | succ j=>
   rcases i5 with i5 | ⟨r,hr,i5⟩
   ·exact aS i5 hc
   have un:upR rs (j+1) c=c::upR rs j r.par:=by
    show (if c=0 then [] else match rwAt rs c with | some r=>c::upR rs j r.par | none=> [])=_;rw [aJ hc,hr]
   rw [un] at i8;refine W.stC (W.iB rfl (W.KA rfl rfl rfl (W.lo i3 (W.iK i6 (W.la i4 (W.en rfl (W.bi (W.TD i6 (aF (by rw [aO];exact aT (n6 i7) (aE hk (by decide)))) ?_))))))));have p2:Pre H0 (s'.h.set m (.list (acc.map V.int++ [.int c]))):=i1.set (bV hm);refine W.stC (W.sA (W.PA (X.pre p2) hr (j:=0) ⟨by decide,by decide⟩ rfl (W.lo i2 (i03 rfl rfl (W.lo i4 (i03 rfl rfl (W.iA rfl (i03 rfl rfl (W.asN rfl ?_)))))))));refine W.stN (i15 j (dR j) p2 (vA (by decide) i2) (vA (by decide) i3) ⟨r.par,acc++ [c],TA,i5,?_,by rw [bA];exact n5 i7,by rw [i8,eT];rfl⟩);rw [cJ];exact RA i6
end
end
variable {rs:List Rw} {dep:Int->Nat} {r:Rw}
section
noncomputable def SG(rs:List Rw){β:Type}(f:Rw->β)(z:β)(v:V):β:=match v with
 | .int c=>match rwAt rs c with
  | some r=>f r
  | none=>z
 | _=>z
theorem yA(nd:(rs.map (·.pQ)).Nodup)(h:r∈rs):rwAt rs r.pQ=some r:=by
 induction rs with
 | nil=>cases h
 | cons a t ih=>
  unfold rwAt;rw [fT];rw [bJ,bN] at nd;rcases aZ.mp h with h | h
  ·subst h;rw [aF rfl]
  ·have:a.pQ≠r.pQ:=λz=>nd.1 (z▸bI h);rw [bE this];exact ih nd.2 h
theorem FF(nd:(rs.map (·.pQ)).Nodup){β:Type}(f:Rw->β)(z:β)(h:r∈rs):SG rs f z (.int r.pQ)=f r:=by
 unfold SG
 (try dsimp only)
 rw [yA nd h]
theorem MP(nd:(rs.map (·.pQ)).Nodup)(g:Rw->Bool)(f:Rw->V):(((UA rs).map (·.1)).filter (SG rs g false)).map (SG rs f .none)=(rs.filter g).map f:=by
 have key:∀ l:List Rw,(∀ r∈l,r∈rs)->((l.map λr=>V.int r.pQ).filter (SG rs g false)).map (SG rs f .none)=(l.filter g).map f:=by
  intro l
  induction l with
  | nil=>intro _;rfl
  | cons a t ih=>
   intro h;have ha:=h a (.head _);rw [bJ,dH,dH,FF nd g false ha];by_cases hg:g a=true
   ·rw [aN hg,aN hg,bJ,bJ,FF nd f .none ha,ih λr hr=>h r (.tail _ hr)]
   ·rw [aJ hg,aJ hg,ih λr hr=>h r (.tail _ hr)]
 have e:(UA rs).map (·.1)=rs.map λr=>V.int r.pQ:=by unfold UA;rw [aP];rfl
 rw [e];exact key rs λZ h=>h
section
variable {P:Prg} {s:S} {J:Ev}
theorem W.WB{px:Pos}{elt jZ:Expr}{Ag:List Expr}{scope:Scope}{cells:List (Str×Nat)}{R:Nat}(g:Rw->Bool)(f:Rw->V)(hc:MB J scope.names [] s=some (.ok cells,s))(hk:(tF scope && EB jZ)=true)(hx:(JA J scope).names.lookup x=some .local)(X:Rows s.h R rs)
  (hi:W P (λF=>F.ev jZ J) (λv s1=>v= .ref R/\s1=s) E s)
  (ht:∀ r∈rs,∀ h lo,Pre s.h h->lo.lookup x=some (.int r.pQ)->W P (λF=>RD F {scope:=JA J scope,cells,d:=J.d} Ag) (λb s'=>b=g r/\Pre h s'.h/\s'.l=lo) (λZ Z=>False) {h:=h,l:=lo})
  (he:∀ r∈rs,g r=true->∀ h lo,Pre s.h h->lo.lookup x=some (.int r.pQ)->W P (λF=>F.ev elt {scope:=JA J scope,cells,d:=J.d}) (λy s'=>y=f r/\Pre h s'.h/\s'.l=lo) (λZ Z=>False) {h:=h,l:=lo})
  (q:∀ h acc,Pre s.h h->s.h.length<=acc->h[acc]? =some (.list ((rs.filter g).map f))->Q (.ref acc) {h:=h,l:=s.l}):
  W P (λF=>F.ev (.ListComp elt [⟨.Name x px,jZ,Ag,0⟩] scope p) J) Q E s:=by
 obtain x11|k|e:=X.dict;have mem:∀ v∈(UA rs).map (·.1),∃ r∈rs,v= .int r.pQ:=by
  intro v hv;obtain x12|e|he|rfl:=aL.mp hv;obtain x12|r|hr|rfl:=aL.mp he;exact i12 r hr rfl
 refine W.OU hc hk hx (hi.post λv s1 ii=>?_);obtain x02|hv|hs:=ii;rw [hs];refine ⟨R,UA rs,k,SG rs f .none,SG rs g false,hv,e,pC rs,aE (bV (aO _)) (aE X.len (by decide)),⟨?_,?_⟩,?_⟩
 ·intro v hv h lo hp hlo;obtain x12|r|hr|rfl:=mem v hv;rw [FF X.pnd g false hr];exact ht r hr h lo hp hlo
 ·intro v hv hg h lo hp hlo;obtain x12|r|hr|rfl:=mem v hv;rw [FF X.pnd g false hr] at hg;rw [FF X.pnd f .none hr];exact he r hr hg h lo hp hlo
 ·intro h acc hp ha jY;rw [MP X.pnd] at jY;exact q h acc hp ha jY
end
noncomputable def ZB(rs:List Rw):Nat->Int->Int
 | 0,_=>0
 | k+1,p=>match rwAt rs p with
  | some r=>max (r.used+((rs.filter λc=>decide (c.par=p)).map λc=>ZB rs k c.pQ).sum) r.res
  | none=>0
noncomputable def PM(rs:List Rw)(k:Nat)(p:Int):Int:=((rs.filter λc=>decide (c.par=p)).map λc=>ZB rs k c.pQ).sum
noncomputable def Deep(rs:List Rw):Nat->Int->Prop
 | 0,_=>False
 | k+1,p=>∀ c∈rs,c.par=p->Deep rs k c.pQ
section
variable {R:Nat}
theorem tR:∀ (k:Nat) {H0:List O} {L0:List (Str×V)} {p:Int} {r:Rw} {d:Nat} {Q:V->S->Prop} {E:Addr->S->Prop},Rows H0 R rs->Deep rs k p->rwAt rs p=some r->(∀ h,Pre H0 h->Q (.int (ZB rs k p)) {h:=h,l:=L0})->
  W (pg w) (λF=>F.call (.glob 453) [.ref R,.int p] (d+2*k)) Q E ⟨H0,L0⟩:=by
 intro k
 induction k with
 | zero=>intro H0 L0 p r d Q E X hd hr q;exact hd.elim
 | succ k ih=>
  intro H0 L0 p r d Q E X hd hr q;refine W.f (P:=pg w) (d:=d+2*k+1) rfl ?_;intro P J J' E' L';refine W.stC (W.pA (W.cG (by rfl) (W.GA (W.PA X hr (j:=2) ⟨by decide,by decide⟩ rfl (W.lo rfl (i03 rfl rfl (W.lo rfl (i03 rfl rfl (W.iA rfl (i03 rfl rfl (W.cG (by rfl) (W.la rfl (W.la rfl (W.en rfl ?_))))))))))))));refine W.fnE (P:=pg w) (d:=d+2*k) rfl ?_;intro m h1 hm p1 hc P J J' E' L';have c1:h1[m]? =some (.cell (some (.ref R))):=hc 0 _ rfl;have c2:h1[m+1]? =some (.cell (some (.int p))):=hc 1 _ rfl;clear hc;have X1:=X.pre p1;refine W.stC (W.pA (W.cG (by rfl) (W.WB (cells:=_) (λc=>decide (c.par=p)) (λc=> .int (ZB rs k c.pQ)) rfl rfl rfl X1 (W.cI c1 ⟨rfl,rfl⟩) ?_ ?_ ?_)))
  ·intro c hc h lo hp hlo;refine W.ED (W.xA rfl (W.PA (X1.pre hp) (yA X.pnd hc) (j:=0) ⟨by decide,by decide⟩ rfl (W.cI (hp.get c1) (i03 rfl rfl (W.lo hlo (i03 rfl rfl (W.iA rfl (i03 rfl rfl (W.cI (hp.get c2) ?_)))))))));exact W.jA (a:=decide (c.par=p)) (λZ=>rfl) (i03 rfl (Pre.refl _) rfl)
  ·intro c hc hg h lo hp hlo;refine W.cG (by rfl) (W.li (hp.get c1) (W.la hlo (W.en rfl ?_)));exact ih (X1.pre hp) (hd c hc (by simpa using hg)) (yA X.pnd hc) λh2 p2=>i03 rfl p2 rfl
  ·intro h acc hp ha jY;refine ⟨rfl,W.bi (W.sP (xs:=(rs.filter λc=>decide (c.par=p)).map λc=>ZB rs k c.pQ) (by rw [aP];exact jY) ?_)⟩;refine W.jA (λZ=>rfl) (W.PA (X1.pre hp) hr (j:=3) ⟨by decide,by decide⟩ rfl (W.lo rfl (i03 rfl rfl (W.lo rfl (i03 rfl rfl (W.iA rfl (i03 rfl rfl ⟨rfl,W.bi (W.jA (λZ=>rfl) ?_)⟩)))))));have e:ZB rs (k+1) p=max (r.used+((rs.filter λc=>decide (c.par=p)).map λc=>ZB rs k c.pQ).sum) r.res:=by
    show (match rwAt rs p with | some r=>_ | none=>_)=_;rw [hr]
   rw [e] at q;exact q h (p1.trans hp)
end
end
section
theorem GS{β:Type}{f g:α->Option β}:∀ l:List α,(∀ a∈l,f a=g a)->l.filterMap f=l.filterMap g:=by
 intro l
 induction l with
 | nil=>intro _;exact rfl
 | cons a r ih=>intro h;rw [dS,dS,h a (.head _),ih λb hb=>h b (.tail _ hb)]
theorem tS:clipAt n (k:Int)=min k n:=by
 unfold clipAt;rw [aJ (dG.mpr (cS k))];by_cases h:k<=n
 ·rw [gU (cO.mpr h),eO (cS k),Int.toNat_natCast,Nat.min_eq_left h]
 ·have h:=Nat.le_of_not_le h;rw [Int.min_eq_right (cO.mpr h),eO (cS n),Int.toNat_natCast,Nat.min_eq_right h]
theorem KP:∀ n:Nat,clipAt n (-1)=n - 1:=by
 intro n
 induction n with
 | zero=>exact rfl
 | succ n ih=>
  have e:(-1:Int)+((n+1:Nat):Int)=(n:Int):=by rw [Int.add_comm];exact fQ (n:Int) 1
  unfold clipAt;rw [aN (by decide:(-1:Int) < 0),e,gU (cO.mpr (cE n)),eO (cS n)];rfl
theorem YQ:YE vs none (some (k:Int)) none=vs.take k:=by
 unfold YE;rw [sliceBounds_plain];dsimp only [Option.elim];rw [sliceRange_one];rw [tS];have:=yG vs (min k vs.length) 0 (by rw [cW];exact Nat.min_le_right ..);rw [Nat.sub_zero,this,hM];by_cases h:k<=vs.length
 ·rw [Nat.min_eq_left h]
 ·rw [Nat.min_eq_right (Nat.le_of_not_le h),eE (aY _),eE (Nat.le_of_not_le h)]
theorem XQ:YE vs none (some (-1)) none=vs.dropLast:=by
 unfold YE;rw [sliceBounds_plain];dsimp only [Option.elim];rw [sliceRange_one];rw [KP];have:=yG vs (vs.length - 1) 0 (by rw [cW];exact gP ..);rw [Nat.sub_zero,this,hM,List.dropLast_eq_take]
theorem jT:YE vs none none (some (-1))=vs.reverse:=by
 unfold YE;rw [krv_bounds]
 (try dsimp only)
 rw [krv_sliceRange];refine List.ext_getElem? λi=>?_;have e:((List.range vs.length).map λk=>vs.length - 1 - k).filterMap (vs[·]?)=(List.range vs.length).map λk=>(vs[vs.length - 1 - k]?).getD .none:=by
  rw [List.filterMap_map,<-List.filterMap_eq_map];refine GS _ λk hk=>?_;have hk:k < vs.length:=by simpa using hk
  simp only [Function.comp];rw [bK (n10 (bF (dA k) hk))];rfl
 rw [e,bS];by_cases hi:i < vs.length
 ·rw [eX hi,List.getElem?_reverse hi,Option.map_some,bK (n10 (bF (dA i) hi))];rfl
 ·rw [dV (by simp;exact eM hi),dV (by simp;exact eM hi)];rfl
noncomputable def JB(rs:List Rw)(k:Nat)(p:Int):List Str:=((upR rs k p).dropLast.reverse).map λc=>((rwAt rs c).map (·.name)).getD ""
theorem FU:∀ (k:Nat) (p:Int),∀ c∈upR rs k p,∃ r,rwAt rs c=some r:=by
 intro k
 induction k with
 | zero=>intro p c h;cases h
 | succ k ih=>
  intro p c h;have un:upR rs (k+1) p=if p=0 then [] else match rwAt rs p with
    | some r=>p::upR rs k r.par
    | none=> []:=rfl
  rw [un] at h;by_cases hz:p=0
  ·rw [aN hz] at h;cases h
  ·rw [aJ hz] at h;cases hr:rwAt rs p with
   | none=>rw [hr] at h;cases h
   | some r=>
    rw [hr] at h;rcases aZ.mp h with h | h
    ·exact ⟨r,h▸hr⟩
    ·exact ih r.par c h
theorem MV:∀ (k:Nat) (p:Int),(upR rs k p).length<=k:=by
 intro k
 induction k with
 | zero=>intro p;exact aY _
 | succ k ih=>
  intro p;have un:upR rs (k+1) p=if p=0 then [] else match rwAt rs p with
    | some r=>p::upR rs k r.par
    | none=> []:=rfl
  rw [un];by_cases hp:p=0
  ·rw [aN hp];exact dA _
  ·rw [aJ hp];cases rwAt rs p with
   | some r=>exact bP (ih r.par)
   | none=>exact dA _
section
variable {R:Nat}
theorem YU(X:Rows H0 R rs){p:Int}(hd:∀ c∈rs,c.par=p->Deep rs k c.pQ)(q:∀ h,Pre H0 h->Q (.int (PM rs k p)) {h:=h,l:=L0}):
  W (pg w) (λF=>F.call (.glob 446) [.ref R,.int p] (d+2*k+1)) Q E ⟨H0,L0⟩:=by
 refine W.fnE (P:=pg w) (d:=d+2*k) rfl ?_;intro m h1 hm p1 hc P J J' E' L';have c1:h1[m]? =some (.cell (some (.ref R))):=hc 0 _ rfl;have c2:h1[m+1]? =some (.cell (some (.int p))):=hc 1 _ rfl;clear hc;have X1:=X.pre p1;refine W.stC (W.pA (W.cG (by rfl) (W.WB (cells:=_) (λc=>decide (c.par=p)) (λc=> .int (ZB rs k c.pQ)) rfl rfl rfl X1 (W.cI c1 ⟨rfl,rfl⟩) ?_ ?_ ?_)))
 ·intro c hc h lo hp hlo;refine W.ED (W.xA rfl (W.PA (X1.pre hp) (yA X.pnd hc) (j:=0) ⟨by decide,by decide⟩ rfl (W.cI (hp.get c1) (i03 rfl rfl (W.lo hlo (i03 rfl rfl (W.iA rfl (i03 rfl rfl (W.cI (hp.get c2) ?_)))))))));exact W.jA (a:=decide (c.par=p)) (λZ=>rfl) (i03 rfl (Pre.refl _) rfl)
 ·intro c hc hg h lo hp hlo;refine W.cG (by rfl) (W.li (hp.get c1) (W.la hlo (W.en rfl ?_)));exact tR k (X1.pre hp) (hd c hc (by simpa using hg)) (yA X.pnd hc) λh2 p2=>i03 rfl p2 rfl
 ·intro h acc hp ha jY;exact ⟨rfl,W.bi (W.sP (xs:=(rs.filter λc:Rw=>decide (c.par=p)).map λc:Rw=>ZB rs k c.pQ) (by rw [aP];exact jY) (q h (p1.trans hp)))⟩
theorem LI(X:Rows H0 R rs){p:Int}(hu:MD rs k p)(hk:k<=900)(hj:((JB rs k p).map (·.length)).sum+(JB rs k p).length<=1048576)(q:∀ h,Pre H0 h->Q (.str (Txt.join "/" (JB rs k p))) {h:=h,l:=L0}):
  W (pg w) (λF=>F.call (.glob 458) [.ref R,.int p] (d+2)) Q E ⟨H0,L0⟩:=by
 refine W.fnE (P:=pg w) rfl ?_;intro m h1 hm p1 hc P J J' E' L';have c1:h1[m]? =some (.cell (some (.ref R))):=hc 0 _ rfl;clear hc;have X1:=X.pre p1;have hlen:=MV (rs:=rs) k p;refine W.stC (W.pA (W.KA rfl rfl rfl (W.iA rfl (W.jA (λZ=>rfl) (W.sL (cells:=_) rfl rfl rfl (W.XF (W.XF (W.cG (by rfl) (W.li c1 (W.la rfl (W.en rfl ?_)))))))))));refine BE X1 hu (aE hk (by decide)) λh2 r2 p2 hr2 hl2=>?_;refine W.ND (W.EG (W.neg (W.iA rfl (i12 1 rfl (W.ND (W.jK (ws:=((upR rs k p).dropLast).map V.int) rfl rfl rfl hl2 ⟨by decide,by rw [aO];exact aE hlen (aE hk (by decide))⟩ (by show YE _ none (some (-1)) none=_;rw [XQ,List.map_dropLast]) ?_))))));refine W.ND (W.ND (W.EG (W.neg (W.iA rfl (i12 1 rfl (W.jK (ws:=((upR rs k p).dropLast.reverse).map V.int) rfl rfl rfl oA ⟨by decide,by rw [aO,List.length_dropLast];exact aE (gP ..) (aE hlen (aE hk (by decide)))⟩ (by show YE _ none none (some (-1))=_;rw [jT,List.map_reverse]) ?_))))));refine i46 _ (((upR rs k p).dropLast.reverse).map V.int) (SG rs (λr=> .str r.name) .none) (λZ=>true) rfl oA (by rw [aO,List.length_reverse,List.length_dropLast];exact aE (gP ..) (aE hlen (aE hk (by decide)))) ?_ ?_ ?_
 ·intro v hv h lo hp hlo;exact W.WD (i03 rfl (Pre.refl _) rfl)
 ·intro v hv _ h lo hp hlo;obtain x12|c|hc|rfl:=aL.mp hv;obtain x11|r|hr:=FU (rs:=rs) k p c ((List.dropLast_sublist _).subset (List.mem_reverse.mp hc));have p3:Pre h1 h:=(p2.trans ((Pre.app _ _).trans (Pre.app _ _))).trans hp;refine W.PA (X1.pre p3) hr (j:=1) ⟨by decide,by decide⟩ rfl (W.cI (p3.get c1) (i03 rfl rfl (W.lo hlo (i03 rfl rfl (W.iA rfl (i05 rfl rfl ?_ (Pre.refl _) rfl))))));unfold SG
  (try dsimp only)
  rw [hr]
 ·intro h acc hp ha jY;have e9:List.map (SG rs (λr=>V.str r.name) .none) (List.filter (λZ=>true) (((upR rs k p).dropLast.reverse).map V.int))=(JB rs k p).map V.str:=by
   rw [dT.mpr (λZ Z=>rfl),aP];unfold JB;rw [aP];refine bZ λc hc=>?_;obtain x11|r|hr:=FU (rs:=rs) k p c ((List.dropLast_sublist _).subset (List.mem_reverse.mp hc));simp only [Function.comp,SG,hr];rfl
  rw [e9] at jY;refine ⟨rfl,W.bi (W.lP jY ⟨by decide,hj⟩ (q h ((p1.trans (p2.trans ((Pre.app _ _).trans (Pre.app _ _)))).trans hp)))⟩
theorem IB(hz:x.cps.size<=1000)(q:∀ h,Pre H0 h->Q (.bool (MA x)) {h:=h,l:=L0}):
  W (pg w) (λF=>F.call (.glob 434) [.str x] (d+1)) Q E ⟨H0,L0⟩:=by
 have hl:x.length<=1000:=hz;refine W.f (P:=pg w) rfl ?_;intro P J J' E' L';refine W.stC (W.pA (W.and (W.RV rfl (W.iA rfl (W.cG (by rfl) (W.la rfl (W.en rfl (W.bi (W.RT (aE hl (by decide)) (W.jA (λZ=>rfl) ?_))))))))));cases h1:decide (1<=(x.length:Int)) with
 | false=>
  have:MA x=false:=by unfold MA;rw [h1];rfl
  rw [this] at q;exact W.pure (q _ (Pre.refl _))
 | true=>
  refine W.iA rfl (W.jA (λZ=>rfl) ?_);have e12:decide ((x.length:Int)<=12)=decide ((x.length:Int)<=12):=rfl;cases h2:decide ((x.length:Int)<=12) with
  | false=>
   have:MA x=false:=by unfold MA;rw [h1,h2];rfl
   rw [this] at q;exact W.pure (q _ (Pre.refl _))
  | true=>
   refine W.pure ?_;refine W.NU (W.cG (by rfl) (W.XO (cells:= []) rfl rfl rfl (W.lo rfl (i34 x (λv=>match v with | .str l=> .bool (Txt.contains LETS l) | v=>v) (λZ=>true) rfl hz ⟨?_,?_⟩ ?_))))
   ·intro v hv h lo hp hlo;exact W.WD (i03 rfl (Pre.refl _) rfl)
   ·intro v hv _ h lo hp hlo;obtain x12|c|hc|rfl:=aL.mp hv;exact W.UD rfl (W.lo hlo (W.iA rfl (W.jA (λZ=>rfl) (i03 rfl (Pre.refl _) rfl))))
   ·intro h acc hp ha jY;refine ⟨rfl,W.bi (W.NT (bs:=x.cps.toList.map λc=>Txt.contains LETS ⟨#[c]⟩) ?_ (W.pure ?_))⟩
    ·rw [jY,dT.mpr (λZ Z=>rfl),aP,aP];rfl
    have h3':((x.cps.toList.map λc=>Txt.contains LETS ⟨#[c]⟩).all λb=>b)=BF x:=rfl;rw [h3'];cases h3:BF x with
    | false=>
     have:MA x=false:=by unfold MA;rw [h3];simp
     rw [this] at q;exact q _ hp
    | true=>
     refine W.VI (W.UD rfl (W.lo rfl (W.TB rfl rfl (W.iA rfl (W.iA rfl (W.NR oA (b:=decide ("."=x) || (decide (".."=x) || false)) rfl ?_))))));have:MA x= !(decide ("."=x) || (decide (".."=x) || false)):=by unfold MA;rw [h1,h2,h3];rfl
     rw [this] at q;exact q _ (hp.trans (Pre.app _ _))
end
end
section
noncomputable def uE(rs:List Rw)(p:Int)(x:Str):Bool:=rs.any λc=>decide (c.par=p) && decide (c.name=x)
theorem lG{β:Type}(g:α->Bool)(f:α->β):∀ l:List α,(!((l.filter g).map f).isEmpty)=l.any g:=by
 intro l
 induction l with
 | nil=>exact rfl
 | cons a t ih=>
  rw [dH,List.any_cons];by_cases hg:g a=true
  ·rw [aN hg,hg];rfl
  ·rw [aJ hg,fY.mpr hg,Bool.false_or];exact ih
noncomputable def lawNames:List Str:= ["a","b","c","a-1","z_9.x","A","",".","..","abcdefghijklm","a b","abcdefghijkl"]
noncomputable def EK(C:Addr):Option Str:=if C=75 then some "Busy" else if C=63 then some "Exists" else if C=99 then some "InvalidName" else if C=111 then some "InvalidPath" else if C=51 then some "Missing" else none
section
variable {R:Nat}
theorem JD(X:Rows H0 R rs){p:Int}(q:∀ h,Pre H0 h->Q (.bool (uE rs p x)) {h:=h,l:=L0}):
  W (pg w) (λF=>F.call (.glob 468) [.ref R,.int p,.str x] (d+1)) Q E ⟨H0,L0⟩:=by
 refine W.fnE (P:=pg w) rfl ?_;intro m h1 hm p1 hc P J J' E' L';have c1:h1[m]? =some (.cell (some (.ref R))):=hc 0 _ rfl;have c2:h1[m+1]? =some (.cell (some (.int p))):=hc 1 _ rfl;have c3:h1[m+2]? =some (.cell (some (.str x))):=hc 2 _ rfl;clear hc;have X1:=X.pre p1;refine W.stC (W.pA (W.UD rfl (W.WB (cells:=_) (λc=>decide (c.par=p) && decide (c.name=x)) (λc=> .int c.pQ) rfl rfl rfl X1 (W.cI c1 ⟨rfl,rfl⟩) ?_ ?_ ?_)))
 ·intro c hc h lo hp hlo;refine W.ED (W.tP (W.IM (W.xA rfl (W.PA (X1.pre hp) (yA X.pnd hc) (j:=0) ⟨by decide,by decide⟩ rfl (W.cI (hp.get c1) (i03 rfl rfl (W.lo hlo (i03 rfl rfl (W.iA rfl (i03 rfl rfl (W.cI (hp.get c2) ?_)))))))))));refine W.jA (a:=decide (c.par=p)) (λZ=>rfl) ?_;cases hcp:decide (c.par=p) with
  | false=>exact i03 rfl (Pre.refl _) rfl
  | true=>
   refine W.IM (W.xA rfl (W.PA (X1.pre hp) (yA X.pnd hc) (j:=1) ⟨by decide,by decide⟩ rfl (W.cI (hp.get c1) (i03 rfl rfl (W.lo hlo (i03 rfl rfl (W.iA rfl (i03 rfl rfl (W.cI (hp.get c3) ?_)))))))));refine W.jA (a:=decide (c.name=x)) (λZ=>rfl) ?_;cases hcx:decide (c.name=x) with
   | false=>exact i03 rfl (Pre.refl _) rfl
   | true=>exact W.RO (i03 rfl (Pre.refl _) rfl)
 ·intro c hc hg h lo hp hlo;exact W.lo hlo (i03 rfl (Pre.refl _) rfl)
 ·intro h acc hp ha jY;refine W.list rfl rfl (W.mH (lA jY) oA ?_);have q2:=q _ (p1.trans (hp.trans (Pre.app _ [O.list []])));unfold uE at q2;rw [<-lG _ (λc:Rw=>V.int c.pQ)] at q2;exact q2
theorem XL(q:∀ h r,Pre H0 h->h[r]? =some (.list (lawNames.map V.str))->Q (.ref r) {h:=h,l:=L0}):
  W (pg w) (λF=>F.call (.glob 422) [] (d+1)) Q E ⟨H0,L0⟩:=by
 refine W.f (P:=pg w) rfl ?_;intro P J J' E' L';refine W.stC (W.pA (W.list rfl rfl ?_));iterate 12 (refine W.iA rfl ?_)
 exact q _ _ (Pre.app _ _) oA
theorem zC{b:Expr}{sc:Scope}{ce:List (Str×Nat)}(hn:H0[n]? =some (.lam b sc ce)){Qv:V->List O->Prop}{Ec:Addr->List O->Prop}
  (hcall:∀ lo,W (pg w) (λF=>F.call (.ref n) [] d) (λv s1=>Qv v s1.h/\s1.l=lo) (λC s1=>Ec C s1.h) {h:=H0,l:=lo}) {Q:V->S->Prop}
  (q:∀ v h,Qv v h->Q (.ref h.length) {h:=h++ [.tup [.str "told",v]],l:=L0}) (e:∀ C h,Ec C h->∃ nm,EK C=some nm/\Q (.ref h.length) {h:=h++ [.tup [.str nm,.int 0]],l:=L0}):
  W (pg w) (λF=>F.call (.glob 429) [.ref n] (d+1)) Q E ⟨H0,L0⟩:=by
 refine W.f (P:=pg w) rfl ?_;intro P J J' E' L';refine W.stC (W.iW rfl (W.stC (W.pA (W.TB rfl rfl (W.iA rfl (W.TO rfl rfl rfl (W.lo rfl ⟨?_,?_⟩)))))))
 ·show M.bind (CX n) _ _=_;unfold M.bind CX;rw [hn];rfl
 refine (hcall _).mono (λv s1 ⟨h1,h2⟩=>?_) (λC s1 h1=>?_)
 ·exact q v s1.h h1
 ·obtain x12|nm|h2|h3:=e C s1.h h1;refine i22 (.str nm) (.int 0) ?_ h3;unfold EK at h2;split at h2
  ·rename_i hC;subst hC;cases h2;rfl
  split at h2
  ·rename_i hC;subst hC;cases h2;rfl
  split at h2
  ·rename_i hC;subst hC;cases h2;rfl
  split at h2
  ·rename_i hC;subst hC;cases h2;rfl
  split at h2
  ·rename_i hC;subst hC;cases h2;rfl
  ·cases h2
end
end
section
noncomputable def Tups(h:List O):List V->List (List V)->Prop
 | [],[]=>True
 | y::ys,t::ts=>(∃ a,y= .ref a/\h[a]? =some (.tup t))/\Tups h ys ts
 | _,_=>False
theorem Tups.ind{p:List V->List (List V)->Prop}(h0:p [] [])(h1:∀ a ys t ts,h[a]? =some (.tup t)->Tups h ys ts->p ys ts->p (.ref a::ys) (t::ts)):∀ {ys:List V} {ts:List (List V)},Tups h ys ts->p ys ts:=λ{ys}=>by
 induction ys with
 | nil=>
  intro ts k
  induction ts using lCq with
  | nil=>exact h0
  | cons=>exact k.elim
 | cons y ys ih=>
  intro ts k
  induction ts using lCq with
  | nil=>exact k.elim
  | cons t ts=>
   obtain x02|Dp|r:=k;obtain x12|a|e|g:=Dp;subst e;exact h1 a ys t ts g r (ih r)
theorem Tups.pre{h':List O}(p:Pre h h'){ys:List V}{ts:List (List V)}(k:Tups h ys ts):Tups h' ys ts:=
 Tups.ind (p:=Tups h') trivial (λa Z Z Z g Z ih=>⟨i12 a rfl (p.get g),ih⟩) k
theorem Tups.set(hn:∀ t,h[n]? ≠some (.tup t)){ys:List V}{ts:List (List V)}(k:Tups h ys ts):Tups (h.set n o) ys ts:=
 Tups.ind (p:=Tups (h.set n o)) trivial (λa Z t Z g Z ih=>⟨i12 a rfl (qA (λz=>hn t (z▸g)) g),ih⟩) k
theorem Tups.snoc{y:V}{t:List V}(k:∃ a,y= .ref a/\h[a]? =some (.tup t)){ys:List V}{ts:List (List V)}(r:Tups h ys ts):Tups h (ys++ [y]) (ts++ [t]):=
 Tups.ind (p:=λys ts=>Tups h (ys++ [y]) (ts++ [t])) ⟨k,trivial⟩ (λa Z Z Z g Z ih=>⟨i12 a rfl g,ih⟩) r
theorem Tups.length{ys:List V}{ts:List (List V)}(k:Tups h ys ts):ys.length=ts.length:=
 Tups.ind (p:=λys ts=>ys.length=ts.length) rfl (λZ Z Z Z Z Z ih=>aU (· +1) ih) k
section
variable {P:Prg} {s:S} {J:Ev}
theorem W.VO{elt:Expr}{Ag:List Expr}{it acc R:Nat}{h0:List O}(g:Rw->Bool)(tf:Rw->List V)(hx:J.scope.names.lookup x=some .local)(X:Rows h0 R rs)(hk:h0[R]? =some (.dict (UA rs) k))(hi:h0.length<=it)(ha:h0.length<=acc)(hne:it≠acc)
  (mZ:∀ r∈rs,∀ h lo,Pre h0 h->lo.lookup x=some (.int r.pQ)->W P (λF=>RD F J Ag) (λb s'=>b=g r/\Pre h s'.h/\s'.l=lo) (λZ Z=>False) {h:=h,l:=lo})
  (el:∀ r∈rs,g r=true->∀ h lo,Pre h0 h->lo.lookup x=some (.int r.pQ)->W P (λF=>F.ev elt J) (λy s'=>(∃ a,y= .ref a/\s'.h[a]? =some (.tup (tf r)))/\Pre h s'.h/\s'.l=lo) (λZ Z=>False) {h:=h,l:=lo}):
  ∀ (m i:Nat) (s:S) (ys:List V),i+m=rs.length->Pre h0 s.h->s.h[it]? =some (.itD R i rs.length k)->s.h[acc]? =some (.list ys)->Tups s.h ys (((rs.take i).filter g).map tf)->
   W P (λF=>F.co (.Name x p) elt Ag it acc J) (λZ s'=>Pre h0 s'.h/\∃ ys,s'.h[acc]? =some (.list ys)/\Tups s'.h ys ((rs.filter g).map tf)) (λZ Z=>False) s:=by
 intro m
 induction m with
 | zero=>
  intro i s ys hm hp h1 h2 h3;have hi':i=rs.length:=hm;subst hi';have e0:(UA rs).length=rs.length:=by exact aO _
  refine W.coT (W.nH (es:=UA rs) (n:=k) (by rw [e0];exact h1) (hp.get hk) (pC rs) (λe he=>by rw [dV (by rw [e0];exact aY _)] at he;cases he) λZ=>⟨hp.set hi,ys,qA hne h2,?_⟩);rw [gJ] at h3;exact h3.set λt z=>by rw [h1] at z;cases z
 | succ m ih=>
  intro i s ys hm hp h1 h2 h3;have e0:(UA rs).length=rs.length:=by exact aO _
  refine W.coT (W.nH (es:=UA rs) (n:=k) (by rw [e0];exact h1) (hp.get hk) (pC rs) (λe he=>?_) λhl=>iX hm (e0▸hl));have hlt:i < rs.length:=iN hm;have he2:e=(.int rs[i].pQ,.ref rs[i].rr):=by
   rw [bS,bK hlt] at he;exact (Option.some.inj he).symm
  have hmem:rs[i]∈rs:=List.getElem_mem hlt;have Bt:rs.take (i+1)=rs.take i++ [rs[i]]:=by rw [List.take_add_one,bK hlt];rfl
  rw [e0];subst he2
  revert hmem Bt;refine genE (rs[i]) ?_;intro r hr hmem Bt
  have hp1:Pre h0 (s.h.set it (.itD R (i+1) rs.length k)):=hp.set hi;refine W.jF (W.asN hx ((mZ r hmem _ _ hp1 (OC _)).post λb s2 ii=>?_));obtain x03|hb|Am|hl2:=ii;have e1:=Am.get (RA (p:= .itD R (i+1) rs.length k) h1);have e2:=Am.get (qA (p:= .itD R (i+1) rs.length k) hne h2);have Bv:=hp1.trans Am;have h3':Tups s2.h ys (((rs.take i).filter g).map tf):=(h3.set (o:= .itD R (i+1) rs.length k) λt z=>by rw [h1] at z;cases z).pre Am;subst hb;cases hg:g r with
  | false=>
   refine ih (i+1) s2 ys (iS hm) Bv e1 e2 ?_;rw [Bt,gY,dH,hg];simpa using h3'
  | true=>
   rw [aN rfl];refine (W.heap (s:=s2) rfl ?_);rw [hl2];refine (el r hmem hg s2.h _ Bv (OC _)).post λy s3 ii=>?_;obtain x03|hy|Ax|hl3:=ii;have h4:=h3'.pre Ax;have hlen:=h4.length;refine W.TD (Ax.get e2) ?_ ?_
   ·refine aF (bF (m:=40) ?_ (by decide));rw [hlen,aO];exact aE (dU _ _) (aE (List.length_take_le' _ _) X.len)
   ·refine ih (i+1) _ (ys++ [y]) (iS hm) ((Bv.trans Ax).set ha) (qA (Ne.symm hne) (Ax.get e1)) (RA (Ax.get e2)) ?_;rw [Bt,gY,dH,hg,cJ];have h5:Tups s3.h (ys++ [y]) (((rs.take i).filter g).map tf++ [tf r]):=h4.snoc hy;exact h5.set λt z=>by rw [Ax.get e2] at z;cases z
theorem W.tL{px:Pos}{elt jZ:Expr}{Ag:List Expr}{scope:Scope}{cells:List (Str×Nat)}{R:Nat}(g:Rw->Bool)(tf:Rw->List V)(hc:MB J scope.names [] s=some (.ok cells,s))(hk:(tF scope && EB jZ)=true)(hx:(JA J scope).names.lookup x=some .local)(X:Rows s.h R rs)
  (hi:W P (λF=>F.ev jZ J) (λv s1=>v= .ref R/\s1=s) E s)
  (ht:∀ r∈rs,∀ h lo,Pre s.h h->lo.lookup x=some (.int r.pQ)->W P (λF=>RD F {scope:=JA J scope,cells,d:=J.d} Ag) (λb s'=>b=g r/\Pre h s'.h/\s'.l=lo) (λZ Z=>False) {h:=h,l:=lo})
  (he:∀ r∈rs,g r=true->∀ h lo,Pre s.h h->lo.lookup x=some (.int r.pQ)->W P (λF=>F.ev elt {scope:=JA J scope,cells,d:=J.d}) (λy s'=>(∃ a,y= .ref a/\s'.h[a]? =some (.tup (tf r)))/\Pre h s'.h/\s'.l=lo) (λZ Z=>False) {h:=h,l:=lo})
  (q:∀ h acc ys,Pre s.h h->s.h.length<=acc->h[acc]? =some (.list ys)->Tups h ys ((rs.filter g).map tf)->Q (.ref acc) {h:=h,l:=s.l}):
  W P (λF=>F.ev (.ListComp elt [⟨.Name x px,jZ,Ag,0⟩] scope p) J) Q E s:=by
 obtain x11|k|e:=X.dict;refine W.xI hc hk (hi.post λv s1 ii=>?_);obtain x02|hv|hs:=ii;subst hv;rw [hs];refine W.XI e (pC rs) ?_;have e0:(UA rs).length=rs.length:=aO _;rw [e0];have hlen:(s.h++ [O.itD R 0 rs.length k]).length=s.h.length+1:=bA;refine (W.VO (h0:=s.h) (R:=R) (k:=k) g tf hx X e (aY _) (by rw [hlen];exact cE _) (by rw [hlen];exact (cK _).symm) ht he rs.length 0 _ [] (cW _) ((Pre.app _ _).trans (Pre.app _ _)) (lA oA) (by simpa using oA) trivial).post λZ s3 ii=>?_;obtain x02|h1|Do:=ii;obtain x12|ys|h2|h3:=Do;exact q s3.h _ ys h1 (by rw [hlen];exact cE _) h2 h3
end
noncomputable def plt(a b:Str×Int):Bool:=jB a.1 b.1 || (decide (a.1=b.1) && decide (a.2 < b.2))
noncomputable def yC(rs:List Rw)(p:Int):List (Str×Int):=SA plt ((rs.filter λc=>decide (c.par=p)).map λc=>(c.name,c.pQ))
noncomputable def allR(rs:List Rw):Nat->Int->List Int
 | 0,_=> []
 | k+1,p=>p::(yC rs p).flatMap λe=>allR rs k e.2
theorem yQ{β:Type}(f:α->β)(lt:β->β->Bool)(x:α):∀ l:List α,(JE (λa b=>lt (f a) (f b)) x l).map f=JE lt (f x) (l.map f):=by
 intro l
 induction l with
 | nil=>exact rfl
 | cons y r ih=>
  rw [bJ];show (if lt (f y) (f x)=true then y::JE (λa b=>lt (f a) (f b)) x r else x::y::r).map f=(if lt (f y) (f x)=true then f y::JE lt (f x) (r.map f) else f x::f y::r.map f);by_cases h:lt (f y) (f x)=true
  ·rw [aN h,aN h,bJ,ih]
  ·rw [aJ h,aJ h];rfl
theorem FO{β:Type}(f:α->β)(lt:β->β->Bool):∀ l:List α,(SA (λa b=>lt (f a) (f b)) l).map f=SA lt (l.map f):=by
 intro l
 induction l with
 | nil=>exact rfl
 | cons x r ih=>rw [HE,yQ,ih,bJ,HE]
theorem yO:XA=λa b=>plt a.2 b.2:=rfl
theorem ZS:∀ {ys:List V} {l:List (Str×Int)},Tups h ys (l.map λe=> [.str e.1,.int e.2])->ZC h ys=some (ys.zip l):=by
 intro ys
 induction ys with
 | nil=>
  intro l k
  induction l using lCq with
  | nil=>rfl
  | cons _ _=>exact k.elim
 | cons y ys ih=>
  intro l k
  induction l using lCq with
  | nil=>exact k.elim
  | cons e l=>
   obtain x02|k|r:=k;obtain x12|a|e1|e2:=k;subst e1;have e3:OH h (.ref a)=some (e.1,e.2):=by
    show h[a]?.bind XT=_;rw [e2];rfl
   show (match OH h (.ref a),ZC h ys with | some p,some l=>some ((V.ref a,p)::l) | _,_=>none)=_;rw [e3,ih r];rfl
theorem Tups.get:∀ {ys:List V} {l:List (Str×Int)},Tups h ys (l.map λe=> [.str e.1,.int e.2])->∀ z∈ys.zip l,∃ a,z.1= .ref a/\h[a]? =some (.tup [.str z.2.1,.int z.2.2]):=by
 intro ys
 induction ys with
 | nil=>intro l _ z hz;cases hz
 | cons y ys ih=>
  intro l k z hz
  induction l using lCq with
  | nil=>exact k.elim
  | cons e l=>
   rw [fR] at hz;rcases aZ.mp hz with hz | hz
   ·subst hz;exact k.1
   ·exact ih k.2 z hz
theorem Tups.of:∀ {zs:List (V×Str×Int)},(∀ z∈zs,∃ a,z.1= .ref a/\h[a]? =some (.tup [.str z.2.1,.int z.2.2]))->Tups h (zs.map (·.1)) ((zs.map (·.2)).map λe=> [.str e.1,.int e.2]):=by
 intro zs
 induction zs with
 | nil=>intro _;exact trivial
 | cons z zs ih=>intro k;exact ⟨k z (.head _),ih λy hy=>k y (.tail _ hy)⟩
section
variable {P:Prg}
theorem W.rP{ys:List V}{l:List (Str×Int)}(hn:H0[n]? =some (.list ys))(ht:Tups H0 ys (l.map λe=> [.str e.1,.int e.2]))(hz:l.length < 64)(nd:l.Nodup)
  (q:∀ ys',Tups H0 ys' ((SA plt l).map λe=> [.str e.1,.int e.2])->Q (.ref H0.length) {(⟨H0,L0⟩:S) with h:=H0++ [.list ys']}):W P (λZ=>lB "sorted" [.ref n]) Q E ⟨H0,L0⟩:=by
 have hlen:ys.length=l.length:=by have:=ht.length;rwa [aO] at this
 have hzip:(ys.zip l).map (·.2)=l:=by rw [List.map_snd_zip];exact bV hlen.symm
 refine W.zA hn (W.AA (by rw [hlen];exact aF hz) ?_)
 induction ys using lCq with
 | nil=>
  induction l using lCq with
  | nil=>exact W.bind (W.alloc (W.pure (q [] trivial)))
  | cons=>simp at hlen
 | cons y ys=>
  have hs:xD (y::ys)=none:=by
   induction l using lCq with
   | nil=>simp at hlen
   | cons e l=>
    obtain x02|Dn|r:=ht;obtain x12|a|e1|e2:=Dn;subst e1;rfl
  refine W.eq (m:=λZ=>getS >>=λt=>DX (ZC t.h (y::ys)) >>=λl=>BX (jE l) >>=λZ=>FX (.list ((SA XA l).map (·.1))) >>=λn=>Pure.pure (V.ref n)) ?_ (λF=>by
   show ((match xD (y::ys) with | some l=>FX (.list l) >>=λn=>Pure.pure (V.ref n) | none=>getS >>=λt=>DX (ZC t.h (y::ys)) >>=λl=>BX (jE l) >>=λZ=>FX (.list ((SA XA l).map (·.1))) >>=λn=>Pure.pure (V.ref n)):M V) ⟨H0,L0⟩=_;rw [hs])
  refine W.bind (W.ret (a:=⟨H0,L0⟩) (s':=⟨H0,L0⟩) (λZ=>rfl) (W.opt (ZS ht) (W.AA ?_ (W.bind (W.alloc (W.pure ?_))))))
  ·unfold jE;rw [hzip];exact aF nd
  ·refine q _ ?_;have e9:(SA XA ((y::ys).zip l)).map (·.2)=SA plt l:=by
    rw [yO,FO (λz:V×Str×Int=>z.2) plt,hzip]
   rw [<-e9];exact Tups.of λz hz=>ht.get z ((pB _ _ z).mp hz)
end
end
section
theorem Tups.nth{ys:List V}{ts:List (List V)}(k:Tups h ys ts):∀ {i:Nat} {v:V},ys[i]? =some v->∃ t a,ts[i]? =some t/\v= .ref a/\h[a]? =some (.tup t):=
 Tups.ind (p:=λys ts=>∀ {i:Nat} {v:V},ys[i]? =some v->∃ t a,ts[i]? =some t/\v= .ref a/\h[a]? =some (.tup t)) (λe=>nos e) (λa Z t Z g Z ih i v e=>by
  induction i using nCq with
  | zero=>exact i23 t a rfl (Option.some.inj e).symm g
  | succ i=>exact ih (i:=i) e) k
theorem rG(nd:(rs.map (·.pQ)).Nodup)(p:Int):((rs.filter λc=>decide (c.par=p)).map λc=>(c.name,c.pQ)).Nodup:=by
 refine List.Pairwise.of_map (S:=λa b=>a≠b) (λe:Str×Int=>e.2) (λa b h z=>h (aU _ z)) ?_;rw [aP];exact ((List.filter_sublist.map _).nodup nd:((rs.filter λc=>decide (c.par=p)).map (·.pQ)).Nodup)
section
variable {R:Nat}
theorem nC{p:Int}{e:Str×Int}(h:e∈yC rs p):∃ c∈rs,c.par=p/\c.name=e.1/\c.pQ=e.2:=by
 obtain x12|c|hc|rfl:=aL.mp ((pB _ _ e).mp h);obtain x02|h1|h2:=cN.mp hc;exact i14 c h1 (by simpa using h2) rfl rfl
theorem JQ(hb:∀ j,∀ r∈rs,(allR rs j r.pQ).length<=1000):∀ (k:Nat) {H0:List O} {L0:List (Str×V)} {p:Int} {d:Nat} {Q:V->S->Prop} {E:Addr->S->Prop},Rows H0 R rs->(∃ r∈rs,r.pQ=p)->Deep rs k p->(∀ h r,Pre H0 h->h[r]? =some (.list ((allR rs k p).map V.int))->Q (.ref r) {h:=h,l:=L0})->
  W (pg w) (λF=>F.call (.glob 463) [.ref R,.int p] (d+k)) Q E ⟨H0,L0⟩:=by
 intro k
 induction k with
 | zero=>intro H0 L0 p d Q E X _ hd q;exact hd.elim
 | succ k ih=>
  intro H0 L0 p d Q E X hpr hd q;refine W.fnE (P:=pg w) (d:=d+k) rfl ?_;intro m h1 hm p1 hc P J J' E' L';have c1:h1[m]? =some (.cell (some (.ref R))):=hc 0 _ rfl;have c2:h1[m+1]? =some (.cell (some (.int p))):=hc 1 _ rfl;clear hc;have X1:=X.pre p1;refine W.stC (W.sA (W.list rfl rfl (W.cI c2 (W.asN rfl ?_))));have Cj:(h1++ [O.list [.int p]])[h1.length]? =some (.list [.int p]):=oA;have p2:Pre h1 (h1++ [O.list [.int p]]):=Pre.app _ _;have X2:=X1.pre p2
  revert Cj;refine genE (h1.length) ?_;intro m1 hm1 Cj
  revert p2 X2 Cj;refine genI (h1++ [O.list [.int p]]) ?_;intro h2 p2 X2 Cj
  refine W.stC (W.oH rfl (W.cG (by rfl) (W.tL (cells:=_) (λc=>decide (c.par=p)) (λc=> [.str c.name,.int c.pQ]) rfl rfl rfl X2 (W.cI (p2.get c1) ⟨rfl,rfl⟩) ?_ ?_ ?_)))
  ·intro c hc h lo hp hlo;refine W.ED (W.xA rfl (W.PA (X2.pre hp) (yA X.pnd hc) (j:=0) ⟨by decide,by decide⟩ rfl (W.cI (hp.get (p2.get c1)) (i03 rfl rfl (W.lo hlo (i03 rfl rfl (W.iA rfl (i03 rfl rfl (W.cI (hp.get (p2.get c2)) ?_)))))))));exact W.jA (a:=decide (c.par=p)) (λZ=>rfl) (i03 rfl (Pre.refl _) rfl)
  ·intro c hc hg h lo hp hlo;refine W.TB rfl rfl (W.PA (X2.pre hp) (yA X.pnd hc) (j:=1) ⟨by decide,by decide⟩ rfl (W.cI (hp.get (p2.get c1)) (i03 rfl rfl (W.lo hlo (i03 rfl rfl (W.iA rfl (i03 rfl rfl (W.lo hlo ?_))))))));exact i03 (i12 _ rfl oA) (Pre.app _ _) rfl
  ·intro h3 acc ys p3 ha jY ht;have ht2:Tups h3 ys (((rs.filter λc=>decide (c.par=p)).map λc=>(c.name,c.pQ)).map λe=> [V.str e.1,V.int e.2]):=by rw [aP];exact ht
   refine ⟨rfl,W.bi (W.rP jY ht2 ?_ (rG X.pnd p) λys' ht3=>W.YI oA ?_)⟩
   ·rw [aO];exact bF (dU ..) (bF X.len (by decide))
   have ht4:Tups h3 ys' ((yC rs p).map λe=> [V.str e.1,V.int e.2]):=ht3;have hys:ys'.length=(yC rs p).length:=by have:=ht4.length;rwa [aO] at this
   have p4:Pre h2 (h3++ [O.list ys']):=p3.trans (Pre.app _ _);have hl4:(h3++ [O.list ys'])[h3.length]? =some (.list ys'):=oA;have ht5:Tups (h3++ [O.list ys']) ys' ((yC rs p).map λe=> [V.str e.1,V.int e.2]):=ht4.pre (Pre.app _ _)
   revert hl4;refine genE (h3.length) ?_;intro m3 hm3 hl4
   try dsimp only
   revert p4 ht5 hl4;refine genI (h3++ [O.list ys']) ?_;intro h4 p4 ht5 hl4
   have p04:Pre H0 h4:=p1.trans (p2.trans p4);refine W.KM (vs:=ys') (it:=h4.length) (λi=> .itL m3 i) (I:=λi s'=>Pre h4 s'.h/\s'.h[h4.length]? =some (.itL m3 i)/\∃ f,has s'.l "found" (.ref f)/\s'.h[f]? =some (.list ((p::((yC rs p).take i).flatMap λe=>allR rs k e.2).map V.int))/\f≠h4.length) ?_ ?_ ?_ ys'.length 0 _ (cW _) ?_
   ·intro i s' Q2 ii Ar q1 q2;obtain x03|i1|i2|Dp:=ii;obtain x13|f|i3|i4|i5:=Dp;exact W.iJ i2 (i1.get hl4) q1 q2
   ·intro i v s' ii hv;obtain x03|i1|i2|Do:=ii;obtain x13|f|i3|i4|i5:=Do;obtain x23|t|a|e1|e2|e3:=ht5.nth hv;rw [bS] at e1;cases e5:(yC rs p)[i]? with
    | none=>rw [e5] at e1;cases e1
    | some e=>
     rw [e5] at e1;cases e1;subst e2;obtain x14|c|hc|hcp|hcn|hcq:=nC (cT e5);have i1':Pre h4 (s'.h.set h4.length (.itL m3 (i+1))):=i1.set (aY _);have X5:=(X2.pre p4).pre i1';refine W.XV (RA i2) (W.asT (YB (i1'.get e3)) rfl (W.a1 (W.asN rfl (W.a1 (W.asN rfl (W.as0 ?_))))));refine W.stC (W.sA (W.GA (W.lo (vA (by decide) (vA (by decide) i3)) (W.cG (by rfl) (W.cI (i1'.get (p4.get (p2.get c1))) (W.la TA (W.en rfl ?_)))))));refine ih X5 (i12 c hc hcq) (by rw [<-hcq];exact hd c hc hcp) λh6 r6 p6 hr6=>?_;have hf6:=p6.get (qA (p:= .itL m3 (i+1)) (λz=>i5 z.symm) i4);have hu:allR rs (k+1) p=p::(yC rs p).flatMap λe=>allR rs k e.2:=rfl;have Bt:(yC rs p).take (i+1)=(yC rs p).take i++ [e]:=by rw [List.take_add_one,e5];rfl
     have pZ:(((yC rs p).take i).flatMap λe=>allR rs k e.2).length<=((yC rs p).flatMap λe=>allR rs k e.2).length:=by
      conv=>rhs;rw [<-List.take_append_drop i (yC rs p),List.flatMap_append,bA]
      exact bM ..
     refine W.UI hf6 hr6 ?_ (W.asN rfl (W.stN (i03 (i1'.trans (p6.trans (Pre.app _ _))) (lA (p6.get (RA i2))) ⟨_,TA,?_,?_⟩)))
     ·obtain x12|rp|hrp|hrp2:=hpr;have h1:=hb (k+1) rp hrp;have h2:=hb k c hc;rw [hrp2] at h1;rw [hcq] at h2;rw [hu] at h1;simp only [List.length_cons,List.length_map] at h1 ⊢;exact aE (dM (aE (bP pZ) h1) h2) (by decide)
     ·rw [Bt,List.flatMap_append,<-cJ];have e9:(p::((yC rs p).take i).flatMap λe=>allR rs k e.2)++allR rs k e.2=p::((((yC rs p).take i).flatMap λe=>allR rs k e.2)++ [e].flatMap λe=>allR rs k e.2):=by simp
      rw [e9];exact oA
     ·have:=CA (p6.get (RA (p:= .itL m3 (i+1)) i2));exact aV this
   ·intro s' ii;obtain x03|i1|i2|Dn:=ii;obtain x13|f|i3|i4|i5:=Dn;refine W.stC (W.pA (W.lo i3 (q _ f (p04.trans (i1.set (aY _))) ?_)));refine qA (λz=>i5 z.symm) ?_;rw [hys,gJ] at i4;exact i4
   ·refine i03 (Pre.app _ _) oA ⟨m1,rfl,?_,?_⟩
    ·exact lA (p4.get Cj)
    ·exact bG (CA (p4.get Cj))
end
end
section
structure Wld(h:List O)(A:Adr)(R:Nat)(hY:Int)(ns:List Nd)(rs:List Rw):Prop where
 rep:∃ hZ zaps,Rep ⟨h,[]⟩ A hY ns hZ zaps
 rows:Rows h R rs
 apart:∀ i∈QG R rs,i∉foot A ns
noncomputable abbrev wC(A:Adr)(R:Nat)(ns:List Nd)(rs:List Rw):List Nat:=foot A ns++QG R rs
structure Nxt(h:List O)(F:List Nat)(h':List O)(F':List Nat):Prop where
 keep:Keep F h h'
 new:∀ i∈F',i∈F\/h.length<=i
theorem Nxt.of_pre{h':List O}(p:Pre h h')(F:List Nat):Nxt h F h' F:=⟨Keep.of_pre p,λZ hi=> .inl hi⟩
theorem Nxt.trans{a b c:List O}{F G H:List Nat}(x:Nxt a F b G)(y:Nxt b G c H):Nxt a F c H:=
 ⟨x.keep.trans' y.keep x.new,λi hi=>(y.new i hi).elim (λh=>x.new i h) λh=> .inr (aE x.keep.1 h)⟩
theorem Wld.pre{h':List O}{A:Adr}{R:Nat}{hY:Int}(x:Wld h A R hY ns rs)(p:Pre h h'):Wld h' A R hY ns rs:=
 ⟨by obtain x21|n|z|r:=x.rep;exact i21 n z (r.on p []),x.rows.pre p,x.apart⟩
theorem Wld.len{A:Adr}{R:Nat}{hY:Int}(x:Wld h A R hY ns rs):∀ i∈wC A R ns rs,i < h.length:=by
 intro i hi;obtain x21|n|z|r:=x.rep;rcases bR.mp hi with hi | hi
 ·exact r.len i hi
 ·rcases aZ.mp hi with hi | hi
  ·obtain x11|k|e:=x.rows.dict;rw [hi];exact CA e
  ·obtain x12|a|ha|rfl:=aL.mp hi;exact CA (x.rows.rows a ha)
theorem Rep.keepF{h':List O}{A:Adr}{hY:Int}{hZ zaps:List (V×V)}{F:List Nat}(R:Rep ⟨h,[]⟩ A hY ns hZ zaps)(k:Keep F h h')(hF:∀ i∈foot A ns,i∉F):Rep ⟨h',[]⟩ A hY ns hZ zaps:=by
 have g:∀ a∈foot A ns,∀ ob,h[a]? =some ob->h'[a]? =some ob:=λa ha ob e=>k.2 _ _ e (hF a ha);exact {R with
  base:={R.base with
   inst:=g _ (.head _) _ R.base.inst
   own:=(by obtain x11|k|e:=R.base.own;exact ⟨k,g _ (.tail _ (.head _)) _ e⟩)
   nts:=(by obtain x11|k|e:=R.base.nts;exact ⟨k,g _ (.tail _ (.tail _ (.head _))) _ e⟩)
   zps:=(by obtain x11|k|e:=R.base.zps;exact ⟨k,g _ (by exact .tail _ (.tail _ (.tail _ (.head _)))) _ e⟩)}
  root:=(by obtain x11|k|e:=R.root;exact ⟨k,g _ (by exact .tail _ (.tail _ (.tail _ (.tail _ (.head _))))) _ e⟩)
  kQ:=λa ha=>by obtain x11|k|e:=R.kQ a ha;exact ⟨k,g _ (by simp only [List.mem_cons,List.mem_map];exact .inr (.inr (.inr (.inr (.inr (i12 a ha rfl)))))) _ e⟩}
theorem Keep.mono{F G:List Nat}{a b:List O}(x:Keep F a b)(h:∀ i∈F,i∈G):Keep G a b:=⟨x.1,λi o e n=>x.2 i o e λhi=>n (h i hi)⟩
theorem Rows.add{R:Nat}(X:Rows h R rs)(hk:h[R]? =some (.dict (UA rs) k))(hr:h[r.rr]? =some (.list r.lst))(qZ:rwAt rs r.pQ=none)(Bj:r.rr∉QG R rs)(hlen:rs.length < 40):
  Rows (h.set R (KX (.int r.pQ) (.ref r.rr) (UA rs) k)) R (rs++ [r]) where
 dict:=by
  have e1:IA (.int r.pQ) (UA rs)=none:=by rw [KF,qZ];rfl
  refine ⟨k+1,?_⟩;have e2:KX (.int r.pQ) (.ref r.rr) (UA rs) k= .dict (UA (rs++ [r])) (k+1):=by
   unfold KX;rw [UJ _ _ _ e1,e1];unfold UA;rw [cJ];rfl
  rw [e2];exact RA hk
 rows:=λa ha=>by
  rcases bR.mp ha with ha | ha
  ·have hne:R≠a.rr:=λz=>by
    have:=X.nd;rw [bN] at this;exact this.1 (z▸bI ha)
   exact qA hne (X.rows a ha)
  ·rw [aH.mp ha];exact qA (λz=>Bj (by rw [<-z];exact .head _)) hr
 nd:=by
  rw [cJ,<-fM];refine dJ.mpr (i03 X.nd (by simp) ?_);intro a ha b hb z;simp only [List.map_cons,List.map_nil,List.mem_singleton] at hb;exact Bj (by rw [<-hb,<-z];exact ha)
 pnd:=by
  rw [cJ];refine dJ.mpr (i03 X.pnd (by simp) ?_);intro a ha b hb z;simp only [List.map_cons,List.map_nil,List.mem_singleton] at hb;obtain x12|c|hc|rfl:=aL.mp ha;have e3:=yA X.pnd hc;rw [z,hb,qZ] at e3;cases e3
 len:=by rw [bA];exact ‹rs.length < 40›
section
variable {P:Prg} {s:S} {J:Ev}
theorem W.yD{body:Expr}{scope:Scope}{cells:List (Str×Nat)}(hq:J.lq.isSome=true)(hc:MB J scope.names [] s=some (.ok cells,s))(q:∀ h,Pre s.h h->h[s.h.length]? =some (.lam body scope cells)->Q (.ref s.h.length) {h:=h,l:=s.l}):W P (λF=>F.ev (.Lambda ⟨[],[],none,[],[],none,[]⟩ body scope p) J) Q E s:=
 W.LR hq hc (q _ (Pre.app _ _) oA)
theorem W.nF{t:Expr}{ix c:Expr}{p1 p2:Pos}{nm:Str}(hi:vC ix=none)(hs:EB c=true)(hn:s.h[n]? =some (.tup [.str nm,v]))
  (h:W P (λF=>F.ev t J) (λa s1=>a= .ref n/\s1=s/\W P (λF=>F.ev ix J) (λb s2=>b= .int 0/\s2=s/\W P (λF=>F.ev c J) (λu s3=>u= .str x/\s3=s/\Q (.bool (decide (nm=x))) s) E s) E s) E s):
  W P (λF=>F.ev (.Compare (.Subscript t ix p1) [.Eq] [c] p2) J) Q E s:=by
 refine W.UD hs (W.mK hi (h.post λa s1 ii=>?_));obtain x03|ha|e1|h:=ii;subst ha;rw [e1];refine h.post λb s2 ii=>?_;obtain x03|hb|e2|h:=ii;subst hb;rw [e2];refine W.VF hn ⟨by decide,by decide⟩ rfl (h.post λu s3 ii=>?_);obtain x03|hu|e3|q:=ii;subst hu;rw [e3];exact W.jA (a:=decide (nm=x)) (λZ=>rfl) q
end
section
variable {A:Adr} {R:Nat} {hY:Int}
theorem UL(X:Wld H0 A R hY ns rs){n:Nd}(hp:ndAt ns n.pQ=some n)(hz:x.cps.size<=1000)(hl:hY+3<=800)(hk:n.kQ.length < 63)(hlen:rs.length < 40)(qZ:rwAt rs (hY+1+1+1)=none)
  (link:(n.kQ.lookup x).isSome=uE rs n.pQ x) {Q:V->S->Prop}
  (q1:∀ h,Pre H0 h->(MA x=false\/uE rs n.pQ x=true)->Q (.bool true) {h:=h,l:=L0})
  (q2:∀ h z a,Wld h A R (hY+1+1+1) (XD ns hY n x z) (rs++ [⟨hY+1+1+1,n.pQ,x,0,0,a⟩])->Nxt H0 (wC A R ns rs) h (wC A R (XD ns hY n x z) (rs++ [⟨hY+1+1+1,n.pQ,x,0,0,a⟩]))->MA x=true->uE rs n.pQ x=false->Q (.bool true) {h:=h,l:=L0}):
  W (pg w) (λF=>F.call (.glob 475) [.ref A.b,.ref R,.int n.pQ,.str x] (d+9)) Q E ⟨H0,L0⟩:=by
 refine W.fnE (P:=pg w) rfl ?_;intro m h1 hm p1 hc P J J' E' L';have c1:h1[m]? =some (.cell (some (.ref A.b))):=hc 0 _ rfl;have c2:h1[m+1]? =some (.cell (some (.int n.pQ))):=hc 1 _ rfl;have c3:h1[m+2]? =some (.cell (some (.str x))):=hc 2 _ rfl;clear hc;obtain x21|nt|zp|Rp:=X.rep;refine W.stC (W.sA (W.cG (by rfl) (W.yD (cells:=_) rfl rfl λhL pL eL=>⟨rfl,?_⟩)));have p2:Pre H0 hL:=p1.trans pL;refine zC (d:=d+7) eL (Qv:=λv h=>v= .int (hY+1+1+1)/\∃ z nt' zp',Rep ⟨h,[]⟩ A (hY+1+1+1) (XD ns hY n x z) nt' zp'/\Keep (foot A ns) hL h/\foot A (XD ns hY n x z)=foot A ns++ [z]/\hL.length<=z/\MA x=true/\n.kQ.lookup x=none)
  (Ec:=λC h=>Pre hL h/\((C=99/\MA x=false)\/(C=63/\MA x=true/\(n.kQ.lookup x).isSome=true))) (λlo=>?_) (λv h ii=>?_) (λC h ⟨hp1,hC⟩=>?_)
 ·refine W.lam eL rfl (W.cG (by rfl) (W.lf (pL.get c1) (W.lf (pL.get c2) (W.lf (pL.get c3) (W.en rfl ?_)))));refine uP (Rp.on p2 _) hp hz hl hk (λh z nt' zp' R1 k1 f1 z1 ok1 no1=>⟨⟨rfl,z,nt',zp',R1,k1,f1,z1,ok1,no1⟩,rfl⟩) (λh iZ ok=>⟨iZ,.inl ⟨rfl,ok⟩⟩) (λh c iZ ok hc=>⟨iZ,.inr ⟨rfl,ok,by rw [hc];rfl⟩⟩)
 ·obtain x02|hv|Dn:=ii;obtain x33|z|nt'|zp'|R1|k1|Do:=Dn;obtain x04|f1|z1|ok1|no1:=Do;subst hv;have ht1:uE rs n.pQ x=false:=by rw [<-link,no1];rfl
  have k1':Keep (foot A ns) h1 h:=Keep.trans (Keep.of_pre pL) k1;have lm:H0.length<=h1.length:=p1.len;have Bs:∀ j,m<=j->j∉foot A ns:=λj hj hi=>aS (Rp.len j hi) (cB.mpr (aE (bV hm) hj));have d1:=k1'.2 _ _ c1 (Bs _ (aY _));have d2:=k1'.2 _ _ c2 (Bs _ (bM ..));have d3:=k1'.2 _ _ c3 (Bs _ (bM ..));have XR:Rows h R rs:=(X.rows.pre p1).keep k1' X.apart;have k0:Keep (foot A ns) H0 h:=Keep.trans (Keep.of_pre p1) k1';have lz:H0.length<=z:=by exact aE p2.len z1
  have tZ:∀ i∈QG R rs,i∉foot A (XD ns hY n x z):=λi hi Au=>by
   rw [f1] at Au;rcases bR.mp Au with Au | Au
   ·exact X.apart i hi Au
   ·have:=X.len i (bO _ hi);rw [aH.mp Au] at this;exact aS this (cB.mpr lz)
  have hndnew:∃ m2,ndAt (XD ns hY n x z) (hY+1+1+1)=some m2/\m2.par=n.pQ:=by
   have Dg:=Rp.places n (wA hp).1;refine i12 (SD hY n.pQ z) ?_ rfl;unfold XD;rw [DB,aJ (lt3 Dg.2.2),ZG,DF (λa ha hz=>lt3 (Rp.places a ha).2.2 hz.symm)];exact aN rfl
  refine W.asN rfl (W.stC (W.sIf (W.RC (W.qB rfl (W.cG (by rfl) (W.li (lA d3) (W.en rfl ?_)))))));refine IB hz λh2 p3=>W.jA (λZ=>rfl) ?_;rw [ok1];refine W.stN (W.stC (W.sIf (W.qB rfl (W.cG (by rfl) (W.la rfl (W.li (p3.get (lA d2)) (W.li (p3.get (lA d3)) (W.en rfl ?_))))))));have Bi:Pre h h2:=(Pre.app _ _).trans p3;refine JD (XR.pre Bi) λh3 p4=>W.jA (λZ=>rfl) ?_;rw [ht1];have As:Pre h h3:=Bi.trans p4;have tl:h3[h.length]? =some (.tup [.str "told",.int (hY+1+1+1)]):=p4.get (p3.get oA);refine W.stN (W.stC (W.sA (W.list rfl rfl (W.cI (As.get d2) (W.cI (As.get d3) (W.iA rfl (W.iA rfl ?_)))))));refine W.aI (W.lo rfl (W.it (W.lo rfl (W.iA rfl (W.VF (lA tl) ⟨by decide,by decide⟩ rfl ?_)))));have XR4:Rows (h3++ [O.list [.int n.pQ,.str x,.int 0,.int 0]]) R rs:=XR.pre (As.trans (Pre.app _ _));obtain x11|kR|eR:=XR4.dict;refine W.oK eR (by rw [LF,Bool.true_and];exact aF (aE (bV (aO _)) (aE X.rows.len (by decide)))) ?_;have Ce:Pre h (h3++ [O.list [.int n.pQ,.str x,.int 0,.int 0]]):=As.trans (Pre.app _ _);have hlen3:H0.length<=h3.length:=aE k0.1 As.len;have XR5:=XR4.add (r:=⟨hY+1+1+1,n.pQ,x,0,0,h3.length⟩) eR oA qZ (λhi=>aS (X.len _ (bO _ hi)) (cB.mpr hlen3)) hlen;have Bc:Keep [R] (h3++ [O.list [.int n.pQ,.str x,.int 0,.int 0]]) ((h3++ [O.list [.int n.pQ,.str x,.int 0,.int 0]]).set R (KX (.int (hY+1+1+1)) (.ref h3.length) (UA rs) kR)):=(Keep.refl _ _).set (.inl (.head _));have R5:=(R1.on Ce []).keepF Bc λi hi Au=>by
   rw [aH.mp Au] at hi;exact tZ R (.head _) hi
  have hRl:R < H0.length:=X.len R (bO _ (.head _));have e5:=Bc.2 _ _ (Ce.get d1) (nsl (aT hRl (qm (k:=0) hm)));have e6:=Bc.2 _ _ (Ce.get d2) (nsl (aT hRl (qm hm)));have t5:=Bc.2 _ _ (lA (t:= [O.list [.int n.pQ,.str x,.int 0,.int 0]]) tl) (nsl (aT hRl k0.1));refine W.heap (h':=(h3++ [O.list [.int n.pQ,.str x,.int 0,.int 0]]).set R (KX (.int (hY+1+1+1)) (.ref h3.length) (UA rs) kR)) rfl ?_;have lY:Keep (wC A R ns rs) H0 ((h3++ [O.list [.int n.pQ,.str x,.int 0,.int 0]]).set R (KX (.int (hY+1+1+1)) (.ref h3.length) (UA rs) kR)):=
   Keep.trans (k0.mono λi hi=>cA _ hi) (Keep.trans (Keep.of_pre Ce) (Bc.mono λi hi=>bO _ (by rw [aH.mp hi];exact .head _)))
  revert XR5 R5 e5 e6 t5 lY;refine genI ((h3++ [O.list [.int n.pQ,.str x,.int 0,.int 0]]).set R (KX (.int (hY+1+1+1)) (.ref h3.length) (UA rs) kR)) ?_;intro h6 XR5 R5 e5 e6 t5 lY
  obtain x12|m2|hm2|hpar:=hndnew;refine W.stC (W.pA (W.and (W.nF rfl rfl t5 (W.lo rfl (i03 rfl rfl (W.iA rfl (i03 rfl rfl (W.iA rfl (i03 rfl rfl (W.pure ?_))))))))));rw [aF rfl];refine W.VI (W.UD rfl (W.LA rfl (W.cG (by rfl) (W.cI e5 (W.it (W.lo rfl (W.iA rfl (W.VF t5 ⟨by decide,by decide⟩ rfl ⟨rfl,?_⟩))))))));refine (R5.on (Pre.refl _) _).load hm2 λh7 i di p7 Z Z An=>?_;obtain x11|k7|own7:=An.own;refine W.rA An.inst own7 (gd _ (by decide)) rfl rfl (W.cI (p7.get e6) ?_);rw [hpar];refine W.jA (a:=decide (n.pQ=n.pQ)) (λZ=>rfl) ?_;rw [aF rfl];refine q2 h7 z h3.length ⟨i21 nt' zp' (R5.on p7 []),XR5.pre p7,?_⟩ ⟨lY.trans (Keep.of_pre p7),?_⟩ ok1 ht1
  ·intro i hi Au;have Cb:i∈QG R rs\/i=h3.length:=by
    simp only [List.map_append,List.mem_cons,List.mem_append,List.map_cons,List.map_nil,List.not_mem_nil,or_false] at hi ⊢;rcases hi with hi | hi | hi
    ·exact .inl (.inl hi)
    ·exact .inl (.inr hi)
    ·exact .inr hi
   rcases Cb with Cb | Cb
   ·exact tZ i Cb Au
   ·exact aS (R1.len i Au) (cB.mpr (by rw [Cb];exact As.len))
  ·intro i hi;rcases bR.mp hi with hi | hi
   ·rw [f1] at hi;rcases bR.mp hi with hi | hi
    ·exact .inl (cA _ hi)
    ·rw [aH.mp hi];exact .inr lz
   ·simp only [List.map_append,List.mem_cons,List.mem_append,List.map_cons,List.map_nil,List.not_mem_nil,or_false] at hi;rcases hi with hi | hi | hi
    ·exact .inl (bO _ (by rw [hi];exact .head _))
    ·exact .inl (bO _ (cU _ hi))
    ·rw [hi];exact .inr hlen3
 ·
  have Ao:Pre h1 h:=pL.trans hp1;rcases hC with ⟨rfl,ok⟩ | ⟨rfl,ok,tk⟩
  ·refine i12 _ rfl ?_;refine W.asN rfl (W.stC (W.sIf (W.RC (W.qB rfl (W.cG (by rfl) (W.li (lA (Ao.get c3)) (W.en rfl ?_)))))));refine IB hz λh2 p3=>W.jA (λZ=>rfl) ?_;rw [ok];refine W.stC (W.pA (W.nF rfl rfl (p3.get oA) (W.lo rfl (i03 rfl rfl (W.iA rfl (i03 rfl rfl (W.iA rfl (i03 rfl rfl ?_))))))));rw [aF rfl];exact q1 h2 (p1.trans (Ao.trans ((Pre.app _ _).trans p3))) (.inl ok)
  ·refine i12 _ rfl ?_;refine W.asN rfl (W.stC (W.sIf (W.RC (W.qB rfl (W.cG (by rfl) (W.li (lA (Ao.get c3)) (W.en rfl ?_)))))));refine IB hz λh2 p3=>W.jA (λZ=>rfl) ?_;rw [ok];have Bi:Pre h h2:=(Pre.app _ _).trans p3;refine W.stN (W.stC (W.sIf (W.qB rfl (W.cG (by rfl) (W.la rfl (W.li (Bi.get (Ao.get c2)) (W.li (Bi.get (Ao.get c3)) (W.en rfl ?_))))))));refine JD (X.rows.pre (p1.trans (Ao.trans Bi))) λh3 p4=>W.jA (λZ=>rfl) ?_;rw [<-link,tk];refine W.stC (W.pA (W.nF rfl rfl (p4.get (p3.get oA)) (W.lo rfl (i03 rfl rfl (W.iA rfl (i03 rfl rfl (W.iA rfl (i03 rfl rfl ?_))))))));rw [aF rfl];exact q1 h3 (p1.trans (Ao.trans (Bi.trans p4))) (.inr (link▸tk))
end
end
section
noncomputable def MC(rs:List Rw)(m:Rw):List Rw:=rs.map λr=>if r.pQ=m.pQ then m else r
noncomputable def rmRw(rs:List Rw)(p:Int):List Rw:=rs.filter λr=>decide (r.pQ≠p)
theorem oL{m:Rw}(h:r∈MC rs m):r=m\/(r∈rs/\r.pQ≠m.pQ):=by
 obtain x12|a|ha|e:=aL.mp h;split at e
 ·exact .inl e.symm
 ·rename_i hne;subst e;exact .inr ⟨ha,hne⟩
theorem DD{β:Type}(f:Rw->β)(nd:(rs.map (·.pQ)).Nodup){m:Rw}(hr:r∈rs)(hp:m.pQ=r.pQ)(hf:f m=f r):(MC rs m).map f=rs.map f:=by
 unfold MC;rw [aP];refine bZ λa ha=>?_;show f (if a.pQ=m.pQ then m else a)=f a;split
 ·rename_i e;rw [(AB nd ha hr (e.trans hp):a=r)];exact hf
 ·rfl
theorem Rows.rne{R:Nat}(X:Rows h R rs)(hr:r∈rs):R≠r.rr:=λz=>by
 have:=X.nd;rw [bN] at this;exact this.1 (z▸bI hr)
theorem Rows.upd{R:Nat}(X:Rows h R rs){m:Rw}(hr:r∈rs)(hp:m.pQ=r.pQ)(Bj:m.rr=r.rr):Rows (h.set r.rr (.list m.lst)) R (MC rs m) where
 dict:=by
  obtain x11|k|e:=X.dict;have:UA (MC rs m)=UA rs:=DD _ X.pnd hr hp (by rw [hp,Bj]);rw [this];exact ⟨k,qA (Ne.symm (X.rne hr)) e⟩
 rows:=λa ha=>by
  rcases oL ha with rfl | ⟨ha,hne⟩
  ·rw [Bj];exact RA (X.rows r hr)
  ·have Cc:r.rr≠a.rr:=λz=>by
    have nd:=X.nd;rw [bN] at nd;exact hne (by rw [(AB nd.2 ha hr z.symm:a=r),hp])
   exact qA Cc (X.rows a ha)
 nd:=by rw [DD (·.rr) X.pnd hr hp Bj];exact X.nd
 pnd:=by rw [DD (·.pQ) X.pnd hr hp hp];exact X.pnd
 len:=by unfold MC;rw [aO];exact X.len
theorem WP(rs:List Rw)(p:Int)(nd:(rs.map (·.pQ)).Nodup):zB (.int p) (UA rs)=UA (rmRw rs p):=by
 induction rs with
 | nil=>rfl
 | cons r t ih=>
  rw [bJ,bN] at nd;have e:UA (r::t)=(.int r.pQ,.ref r.rr)::UA t:=rfl;rw [e];rw [UE];have e2:rmRw (r::t) p=if r.pQ≠p then r::rmRw t p else rmRw t p:=by
   unfold rmRw;rw [dH];simp
  by_cases h:r.pQ=p
  ·rw [aN (by rw [h]),e2,aJ (λz=>z h)];have:rmRw t p=t:=by
    unfold rmRw;refine dT.mpr λa ha=>?_;have:a.pQ≠p:=λz=>nd.1 (by rw [h,<-z];exact bI ha);simpa using this
   rw [this]
  ·rw [aJ (λz=>h (vint z)),e2,aN h,ih nd.2];rfl
theorem Rows.rm{R:Nat}(X:Rows h R rs)(hk:h[R]? =some (.dict (UA rs) k))(p:Int)(k':Nat):Rows (h.set R (.dict (zB (.int p) (UA rs)) k')) R (rmRw rs p) where
 dict:=⟨k',by rw [WP rs p X.pnd];exact RA hk⟩
 rows:=λa ha=>by
  have ha2:a∈rs:=List.filter_sublist.subset ha;exact qA (X.rne ha2) (X.rows a ha2)
 nd:=((List.filter_sublist.map _).cons_cons _).nodup X.nd
 pnd:=(List.filter_sublist.map _).nodup X.pnd
 len:=aE (dU _ _) X.len
section
variable {P:Prg} {s:S} {J:Ev}
theorem IS(p:Int):∀ xs:List Int,inL (.int p) (xs.map V.int)=some (decide (p∈xs)):=by
 intro xs
 induction xs with
 | nil=>exact aU some (bE cR).symm
 | cons x r ih=>
  rw [bJ];show (match rC (.int x) (.int p),inL (.int p) (r.map V.int) with | some k,some j=>some (k || j) | _,_=>none)=_;rw [ih];show some (decide (x=p) || decide (p∈r))=_;congr 1;by_cases h:x=p
  ·subst h;simp
  ·have:¬ p=x:=λz=>h z.symm;simp [h,this]
theorem W.lK{p:Int}{xs:List Int}{Q:Bool->S->Prop}(hn:s.h[n]? =some (.list (xs.map V.int)))(q:Q (decide (p∈xs)) s):W P (λZ=>cmpM .In (.int p) (.ref n)) Q E s:=W.zA hn (W.VD (IS p xs) q)
theorem W.eqT{x y:Nat}{u v:List V}{b:Bool}{Q:Bool->S->Prop}(hx:s.h[x]? =some (.tup u))(hy:s.h[y]? =some (.tup v))(he:PB u v=some b)(q:Q b s):W P (λZ=>cmpM .Eq (.ref x) (.ref y)) Q E s:=W.zA hx (W.zA hy (W.VD he q))
theorem W.SV{H:List O}{L:List (Str×V)}{a c:Nat}{ws:List V}{Q:Unit->S->Prop}(ha:H[a]? =some (.list vs))(hc:H[c]? =some (.list ws))(hz:2<=vs.length/\a≠c/\vs.length<=1000/\ws.length<=1000)(q:Q () ⟨H.set a (.list (ws++vs.drop 2)),L⟩):W P (λZ=>ZE (.ref a) .none (.int 2) (.ref c)) Q E ⟨H,L⟩:=
 W.zA ha (W.zA hc (W.AA (aF (i05 (by decide) (cO.mpr hz.1) hz.2.1 hz.2.2.1 hz.2.2.2)) (W.jD (CA ha) q)))
theorem W.row{o1 i1:Expr}{p1:Pos}{R:Nat}{p:Int}(hi1:vC i1=none)(X:Rows s.h R rs)(hp:rwAt rs p=some r)
  (h:W P (λF=>F.ev o1 J) (λa s1=>a= .ref R/\s1=s/\W P (λF=>F.ev i1 J) (λb s2=>b= .int p/\s2=s/\Q (.ref r.rr) s) E s) E s):W P (λF=>F.ev (.Subscript o1 i1 p1) J) Q E s:=by
 refine W.mK hi1 (h.post λa s1 ii=>?_);obtain x03|ha|hs|h:=ii;subst ha;rw [hs];refine h.post λb s2 ii=>?_;obtain x03|hb|Ci|q:=ii;subst hb;rw [Ci];obtain x11|k|e:=X.dict;exact W.WI e (LF rs p) (by rw [KF,hp];rfl) q
end
theorem Wld.rowSet{A:Adr}{R:Nat}{hY:Int}(X:Wld h A R hY ns rs){m:Rw}(hr:r∈rs)(hp:m.pQ=r.pQ)(Bj:m.rr=r.rr):Wld (h.set r.rr (.list m.lst)) A R hY ns (MC rs m)/\QG R (MC rs m)=QG R rs:=by
 have fe:QG R (MC rs m)=QG R rs:=by unfold QG;rw [DD (·.rr) X.rows.pnd hr hp Bj]
 obtain x21|nt|zp|Rp:=X.rep;refine ⟨⟨i21 nt zp (Rp.keepF (F:= [r.rr]) ((Keep.refl _ _).set (.inl (.head _))) λi hi Au=>?_),X.rows.upd hr hp Bj,λi hi=>X.apart i (fe▸hi)⟩,fe⟩;rw [aH.mp Au] at hi;exact X.apart _ (cU _ (bI hr):r.rr∈QG R rs) hi
theorem Wld.base{h':List O}{A:Adr}{R:Nat}{hY hY':Int}{ns':List Nd}(X:Wld h A R hY ns rs)(k:Keep (foot A ns) h h')(r:∃ hZ zaps,Rep ⟨h',[]⟩ A hY' ns' hZ zaps)(f:∀ i∈foot A ns',i∈foot A ns):Wld h' A R hY' ns' rs:=
 ⟨r,X.rows.keep k X.apart,λi hi Au=>X.apart i hi (f i Au)⟩
section
variable {A:Adr} {R:Nat} {hY:Int}
theorem oO(X:Wld H0 A R hY ns rs)(hr:rwAt rs r.pQ=some r){many:Int}(hc:CuOk k ns r.pQ (many - r.used) 0)
  (q:∀ h,Wld h A R hY (tA k ns r.pQ (many - r.used) 0) (MC rs {r with used:=many})->Nxt H0 (wC A R ns rs) h (wC A R (tA k ns r.pQ (many - r.used) 0) (MC rs {r with used:=many}))->Q (.bool true) {h:=h,l:=L0}):
  W (pg w) (λF=>F.call (.glob 501) [.ref A.b,.ref R,.int r.pQ,.int many] (d+5)) Q E ⟨H0,L0⟩:=by
 obtain x21|nt|zp|Rp:=X.rep;refine W.f (P:=pg w) rfl ?_;intro P J J' E' L';refine W.stC (W.iB rfl (W.cG (by rfl) (W.lo rfl (W.lo rfl (W.GA (W.lo rfl (W.PA X.rows hr (j:=2) ⟨by decide,by decide⟩ rfl (W.lo rfl (i03 rfl rfl (W.lo rfl (i03 rfl rfl (W.iA rfl (i03 rfl rfl (W.jA (λZ=>rfl) (W.lk rfl (W.en rfl ?_))))))))))))))));refine EC (Rp.on (Pre.refl _) _) hc λh1 nt1 R1 f1 k1=>?_;have X1:Wld h1 A R hY (tA k ns r.pQ (many - r.used) 0) rs:=X.base k1 (i21 nt1 zp R1) λi hi=>f1▸hi;obtain x02|Bg|u_:=HA hr;refine W.stC (W.sA (W.lo rfl (W.aI (W.row rfl X1.rows hr (W.lo rfl ⟨rfl,rfl,W.lo rfl ⟨rfl,rfl,W.iA rfl (W.VT (X1.rows.rows r Bg) ⟨by decide,by show (2:Int) < 4;decide,by decide⟩ ?_)⟩⟩)))));obtain x02|X2|f2:=X1.rowSet (m:={r with used:=many}) Bg rfl rfl;refine W.stC (W.pA (W.iA rfl (q _ X2 ⟨?_,?_⟩)))
 ·refine Keep.set (k1.mono λi hi=>cA _ hi) (.inl (bO _ (cU _ (bI Bg))))
 ·intro i hi;unfold wC at hi;rw [f1,f2] at hi;exact .inl hi
theorem sI(X:Wld H0 A R hY ns rs)(hr:rwAt rs r.pQ=some r){n:Nd}(hp:ndAt ns r.pQ=some n){many:Int}(hf:({n with res:=many}:Nd).Fit)(hc:CuOk k (NA ns {n with res:=many}) n.par 0 (({n with res:=many}:Nd).share - n.share))
  (q:∀ h,Wld h A R hY (tA k (NA ns {n with res:=many}) n.par 0 (({n with res:=many}:Nd).share - n.share)) (MC rs {r with res:=many})->Nxt H0 (wC A R ns rs) h (wC A R (tA k (NA ns {n with res:=many}) n.par 0 (({n with res:=many}:Nd).share - n.share)) (MC rs {r with res:=many}))->Q (.bool true) {h:=h,l:=L0}):
  W (pg w) (λF=>F.call (.glob 494) [.ref A.b,.ref R,.int r.pQ,.int many] (d+5)) Q E ⟨H0,L0⟩:=by
 obtain x21|nt|zp|Rp:=X.rep;obtain x02|hn|Dg:=wA hp;refine W.f (P:=pg w) rfl ?_;intro P J J' E' L';refine W.stC (W.sA (W.cG (by rfl) (W.la rfl (W.la rfl (W.en rfl ?_)))));refine (Rp.on (Pre.refl _) _).load hp λh1 i di p1 li Bl An=>W.asN rfl ?_;have Cv:i∉foot A ns:=λhi=>aS (Rp.len _ hi) (cB.mpr li);have rY:di∉foot A ns:=λhi=>aS (Rp.len _ hi) (cB.mpr Bl);obtain x11|k1|Cw:=An.own;refine W.stC (W.sA (W.cG (by rfl) (W.la rfl (W.en rfl (iC An (W.asN rfl ?_))))));refine W.stC (W.sA (W.lo rfl (W.asA (W.lo rfl (W.QB An.inst Cw (sd _ (by decide)) rfl ?_)))));rw [OW];have I2:Info (h1.set di (.dict (xC {n with res:=many}) k1)) i di {n with res:=many}:=⟨qA (Ne.symm An.ne) An.inst,⟨k1,RA Cw⟩,An.ne⟩;have p2:Pre H0 (h1.set di (.dict (xC {n with res:=many}) k1)):=p1.set Bl;refine W.heap (h':=h1.set di (.dict (xC {n with res:=many}) k1)) rfl ?_
 revert I2 p2;refine genI (h1.set di (.dict (xC {n with res:=many}) k1)) ?_;intro h2 I2 p2
 refine W.stC (W.iB rfl (W.cG (by rfl) (W.la rfl (W.la rfl (W.la rfl (W.en rfl ?_))))));rw [<-Dg];refine (Rp.on p2 _).storeW2 (m:={n with res:=many}) hn rfl rfl rfl hf I2 Cv rY λh3 nt3 R3 f3 k3 I3=>?_;obtain x11|k4|own4:=I3.own;refine W.stC (W.iB rfl (W.cG (by rfl) (W.lo rfl (W.LA rfl (W.lo rfl (W.rA I3.inst own4 (gd _ (by decide)) rfl rfl (W.iA rfl (W.GA (W.cG (by rfl) (W.la rfl (W.en rfl (iC I3 (W.lo rfl (W.jA (λZ=>rfl) ⟨rfl,?_⟩))))))))))))));refine EC (R3.on (Pre.refl _) _) hc λh5 nt5 R5 f5 k5=>?_;have f53:=f5.trans f3;have lY:Keep (foot A ns) H0 h5:=(Keep.of_pre p2).trans (k3.trans' k5 λi hi=> .inl (f3▸hi));have X5:Wld h5 A R hY (tA k (NA ns {n with res:=many}) n.par 0 (({n with res:=many}:Nd).share - n.share)) rs:=X.base lY (i21 nt5 zp R5) λi hi=>f53▸hi;obtain x02|Bg|u_:=HA hr;have hr':rwAt rs n.pQ=some r:=by rw [Dg];exact hr
 refine W.stC (W.sA (W.lo rfl (W.aI (W.row rfl X5.rows hr' (W.lo rfl ⟨rfl,rfl,W.lo rfl ⟨aU V.int Dg.symm,rfl,W.iA rfl (W.VT (X5.rows.rows r Bg) ⟨by decide,by show (3:Int) < 4;decide,by decide⟩ ?_)⟩⟩)))));obtain x02|X6|f6:=X5.rowSet (m:={r with res:=many}) Bg rfl rfl;refine W.stC (W.pA (W.iA rfl (q _ X6 ⟨?_,?_⟩)))
 ·refine Keep.set (lY.mono λi hi=>cA _ hi) (.inl (bO _ (cU _ (bI Bg))))
 ·intro i hi;unfold wC at hi;rw [f53,f6] at hi;exact .inl hi
end
end
section
section
variable {A:Adr} {R:Nat} {hY:Int}
theorem VL(X:Wld H0 A R hY ns rs){n t:Nd}(hp:ndAt ns n.pQ=some n)(hr:rwAt rs n.pQ=some r)(hrp:r.par=n.par){np:Int}(ht:ndAt ns np=some t)(hz:x.cps.size<=1000)(hk:k<=900)(hu:sC ns k np)(huR:MD rs k np){k1 k2:Nat}
  (inn:isIn ns k np n.pQ=decide (n.pQ∈upR rs k np)) (link:(t.kQ.lookup x).isSome=uE rs np x)
  (ok:n.par≠0->isIn ns k np n.pQ=false->MA x=true->t.kQ.lookup x=none->∃ o x0 t1,MoveOk ns n np x o x0 t1 k1 k2) {Q:V->S->Prop}
  (q1:∀ h,Pre H0 h->Q (.bool true) {h:=h,l:=L0})
  (q2:n.par≠0->isIn ns k np n.pQ=false->MA x=true->uE rs np x=false->∀ o x0 t1,MoveOk ns n np x o x0 t1 k1 k2->∀ h,Wld h A R hY (mv5 ns n np x o x0 t1 k1 k2) (MC rs {r with par:=np,name:=x})->Nxt H0 (wC A R ns rs) h (wC A R (mv5 ns n np x o x0 t1 k1 k2) (MC rs {r with par:=np,name:=x}))->Q (.bool true) {h:=h,l:=L0}):
  W (pg w) (λF=>F.call (.glob 482) [.ref A.b,.ref R,.int n.pQ,.int np,.str x] (d+9)) Q E ⟨H0,L0⟩:=by
 refine W.fnE (P:=pg w) rfl ?_;intro m h1 hm p1 hc P J J' E' L';have c1:h1[m]? =some (.cell (some (.ref A.b))):=hc 0 _ rfl;have c2:h1[m+1]? =some (.cell (some (.int n.pQ))):=hc 1 _ rfl;have c3:h1[m+2]? =some (.cell (some (.int np))):=hc 2 _ rfl;have c4:h1[m+3]? =some (.cell (some (.str x))):=hc 3 _ rfl;clear hc;obtain x21|nt|zp|Rp:=X.rep;obtain x02|Bg|hrpl:=HA hr;refine W.stC (W.sA (W.cG (by rfl) (W.yD (cells:=_) rfl rfl λhL pL eL=>⟨rfl,?_⟩)));refine zC (d:=d+7) eL (Qv:=λv h=>v= .none/\(n.par≠0/\isIn ns k np n.pQ=false/\MA x=true/\t.kQ.lookup x=none)/\∃ o x0 t1,MoveOk ns n np x o x0 t1 k1 k2/\(∃ nt',Rep ⟨h,[]⟩ A hY (mv5 ns n np x o x0 t1 k1 k2) nt' zp)/\Keep (foot A ns) hL h/\foot A (mv5 ns n np x o x0 t1 k1 k2)=foot A ns)
  (Ec:=λC h=>Pre hL h/\((C=111/\(n.par=0\/isIn ns k np n.pQ=true))\/(C=99/\n.par≠0/\isIn ns k np n.pQ=false/\MA x=false)\/(C=63/\n.par≠0/\isIn ns k np n.pQ=false/\MA x=true/\(t.kQ.lookup x).isSome=true))) (λlo=>?_) (λv h ii=>?_) (λC h ⟨hp1,hC⟩=>?_)
 ·refine W.lam eL rfl (W.cG (by rfl) (W.lf (pL.get c1) (W.lf (pL.get c2) (W.lf (pL.get c3) (W.lf (pL.get c4) (W.en rfl ?_))))));refine rO (Rp.on (p1.trans pL:Pre H0 hL) _) hp ht hz hu ok (λa1 a2 a3 a4 o x0 t1 M h nt' R1 kk ff=>⟨⟨rfl,⟨a1,a2,a3,a4⟩,o,x0,t1,M,⟨nt',R1⟩,kk,ff⟩,rfl⟩) (λh iZ h0=>⟨iZ,.inl ⟨rfl,h0⟩⟩) (λh iZ a1 a2 a3=>⟨iZ,.inr (.inl ⟨rfl,a1,a2,a3⟩)⟩) (λh c iZ a1 a2 a3 a4=>⟨iZ,.inr (.inr ⟨rfl,a1,a2,a3,by rw [a4];rfl⟩)⟩)
 ·obtain x03|hv|Dn|Do:=ii;obtain x04|Bd|hin|ok1|no1:=Dn;obtain x33|o|x0|t1|M|Dp|Dq:=Do;obtain x11|nt'|R1:=Dp;obtain x02|k1'|f1:=Dq;subst hv;have ht1:uE rs np x=false:=by rw [<-link,no1];rfl
  have kk:Keep (foot A ns) h1 h:=Keep.trans (Keep.of_pre pL) k1';have lm:H0.length<=h1.length:=p1.len;have Bs:∀ j,m<=j->j∉foot A ns:=λj hj hi=>aS (Rp.len j hi) (cB.mpr (aE (bV hm) hj));have d1:=kk.2 _ _ c1 (Bs _ (aY _));have d2:=kk.2 _ _ c2 (Bs _ (bM ..));have d3:=kk.2 _ _ c3 (Bs _ (bM ..));have d4:=kk.2 _ _ c4 (Bs _ (bM ..));have k0:Keep (foot A ns) H0 h:=Keep.trans (Keep.of_pre p1) kk;have X1:Wld h A R hY (mv5 ns n np x o x0 t1 k1 k2) rs:=X.base k0 (i21 nt' zp R1) λi hi=>f1▸hi;have X2:=X1.pre (Pre.app h [O.tup [.str "told",.none]]);have xY:decide (n.pQ∈upR rs k np)=false:=by rw [<-inn];exact hin
  refine W.asN rfl (W.stC (W.sIf (W.oF (W.qC (W.xA rfl (W.PA X2.rows hr (j:=0) ⟨by decide,by decide⟩ rfl (W.lo rfl (i03 rfl rfl (W.cI (lA d2) (i03 rfl rfl (W.iA rfl (i03 rfl rfl (W.iA rfl (W.jA (a:=decide (r.par=0)) (λZ=>rfl) ?_))))))))))))));rw [bE (by rw [hrp];exact Bd)];refine W.qC (W.xA rfl (W.cI (lA d2) (W.cG (by rfl) (W.la rfl (W.li (lA d3) (W.en rfl ?_))))));refine BE X2.rows huR (aE hk (by decide)) λh3 r3 p3 hr3 hl3=>W.lK hl3 ?_;rw [xY];have Bi:Pre h h3:=(Pre.app _ _).trans p3;refine W.DG (W.stN (W.stC (W.sIf (W.RC (W.qB rfl (W.cG (by rfl) (W.li (Bi.get d4) (W.en rfl ?_))))))));refine IB hz λh4 p4=>W.jA (λZ=>rfl) ?_;rw [ok1];have As:Pre h h4:=Bi.trans p4;refine W.stN (W.stC (W.sIf (W.qB rfl (W.cG (by rfl) (W.la rfl (W.li (As.get d3) (W.li (As.get d4) (W.en rfl ?_))))))));refine JD (X1.pre As).rows λh5 p5=>W.jA (λZ=>rfl) ?_;rw [ht1];have Ce:Pre h h5:=As.trans p5;refine W.stN (W.stC (W.sA (W.list rfl rfl (W.cI (Ce.get d3) (W.cI (Ce.get d4) ?_)))));have X6:=X1.pre (Ce.trans (Pre.app h5 [O.list [.int np,.str x]]));have hl6:(h5++ [O.list [.int np,.str x]])[h5.length]? =some (.list [.int np,.str x]):=oA;have tl6:(h5++ [O.list [.int np,.str x]])[h.length]? =some (.tup [.str "told",.none]):=lA (p5.get (p4.get (p3.get oA)):h5[h.length]? =some (.tup [.str "told",.none]));have e6:(h5++ [O.list [.int np,.str x]])[m+1]? =some (.cell (some (.int n.pQ))):=lA (Ce.get d2);have pp6:Pre h (h5++ [O.list [.int np,.str x]]):=Ce.trans (Pre.app _ _);have l5:h.length<=h5.length:=Ce.len;refine W.heap (h':=h5++ [O.list [.int np,.str x]]) rfl ?_
  revert X6 hl6 tl6 e6 pp6;refine genI (h5++ [O.list [.int np,.str x]]) ?_;intro h6 X6 hl6 tl6 e6 pp6
  have hrl:r.rr < H0.length:=X.len _ (bO _ (cU _ (bI Bg)));have l0:H0.length<=h.length:=k0.1;have hne5:r.rr≠h5.length:=bG (aT hrl (aE l0 l5));refine W.KU (W.row rfl X6.rows hr (W.lo rfl ⟨rfl,rfl,W.cI e6 ⟨rfl,rfl,W.ND (W.EG (W.iA rfl (W.SV (X6.rows.rows r Bg) hl6 ⟨by show 2<=4;decide,hne5,by show 4<=1000;decide,by show 2<=1000;decide⟩ ?_)))⟩⟩));obtain x02|X7|f7:=X6.rowSet (m:={r with par:=np,name:=x}) Bg rfl rfl;have tl7:(h6.set r.rr (.list ({r with par:=np,name:=x}:Rw).lst))[h.length]? =some (.tup [.str "told",.none]):=qA (bG (aT hrl l0)) tl6;have lY:Keep (wC A R ns rs) H0 (h6.set r.rr (.list ({r with par:=np,name:=x}:Rw).lst)):=Keep.set ((k0.mono λi hi=>cA _ hi).trans (Keep.of_pre pp6)) (.inl (bO _ (cU _ (bI Bg))));refine W.heap (h':=h6.set r.rr (.list ({r with par:=np,name:=x}:Rw).lst)) rfl ?_
  revert X7 tl7 lY;refine genI (h6.set r.rr (.list ({r with par:=np,name:=x}:Rw).lst)) ?_;intro h7 X7 tl7 lY
  refine W.stC (W.pA (W.UD rfl (W.lo rfl (W.TB rfl rfl (W.iA rfl (W.iA rfl (W.eqT (lA tl7) oA (b:=decide (("told" :Str)="told") && (true && true)) rfl ?_)))))));rw [aF rfl];refine q2 Bd hin ok1 ht1 o x0 t1 M _ (X7.pre (Pre.app _ _)) ⟨lY.trans (Keep.of_pre (Pre.app _ _)),λi hi=> .inl ?_⟩;unfold wC at hi;rw [f1,f7] at hi;exact hi
 ·have Ao:Pre h1 h:=pL.trans hp1;have X1:=X.pre (p1.trans Ao);have early:∀ nm:Str,(n.par=0\/isIn ns k np n.pQ=true)\/True:=λZ=> .inr trivial;rcases hC with ⟨rfl,h0⟩ | ⟨rfl,a1,a2,a3⟩ | ⟨rfl,a1,a2,a3,a4⟩
  ·refine i12 _ rfl ?_;have X2:=X1.pre (Pre.app h [O.tup [.str "InvalidPath",.int 0]]);refine W.asN rfl (W.stC (W.sIf (W.oF (W.qC (W.xA rfl (W.PA X2.rows hr (j:=0) ⟨by decide,by decide⟩ rfl (W.lo rfl (i03 rfl rfl (W.cI (lA (Ao.get c2)) (i03 rfl rfl (W.iA rfl (i03 rfl rfl (W.iA rfl (W.jA (a:=decide (r.par=0)) (λZ=>rfl) ?_))))))))))))));have fin:∀ h3 lo,Pre (h++ [O.tup [.str "InvalidPath",.int 0]]) h3->lo=putA (Str.ofString "told") (.ref h.length) (putA (Str.ofString "rows") (.ref R) [])->Q (.bool (decide (("InvalidPath" :Str)="InvalidPath"))) {h:=h3,l:=L0}:=λh3 lo p3 Z=>by
    rw [aF rfl];exact q1 h3 (p1.trans (Ao.trans ((Pre.app _ _).trans p3)))
   by_cases Bd:r.par=0
   ·rw [aF Bd];exact W.stC (W.pA (W.nF rfl rfl oA (W.lo rfl (i03 rfl rfl (W.iA rfl (i03 rfl rfl (W.iA rfl (i03 rfl rfl (fin _ _ (Pre.refl _) rfl)))))))))
   ·rw [bE Bd];have xY:decide (n.pQ∈upR rs k np)=true:=by
     rw [<-inn];rcases h0 with h0 | h0
     ·exact aS (hrp.trans h0) Bd
     ·exact h0
    refine W.qC (W.xA rfl (W.cI (lA (Ao.get c2)) (W.cG (by rfl) (W.la rfl (W.li (lA (Ao.get c3)) (W.en rfl ?_))))));refine BE X2.rows huR (aE hk (by decide)) λh3 r3 p3 hr3 hl3=>W.lK hl3 ?_;rw [xY];exact W.stC (W.pA (W.nF rfl rfl (p3.get oA) (W.lo rfl (i03 rfl rfl (W.iA rfl (i03 rfl rfl (W.iA rfl (i03 rfl rfl (fin _ _ p3 rfl)))))))))
  ·refine i12 _ rfl ?_;have X2:=X1.pre (Pre.app h [O.tup [.str "InvalidName",.int 0]]);refine W.asN rfl (W.stC (W.sIf (W.oF (W.qC (W.xA rfl (W.PA X2.rows hr (j:=0) ⟨by decide,by decide⟩ rfl (W.lo rfl (i03 rfl rfl (W.cI (lA (Ao.get c2)) (i03 rfl rfl (W.iA rfl (i03 rfl rfl (W.iA rfl (W.jA (a:=decide (r.par=0)) (λZ=>rfl) ?_))))))))))))));rw [bE (by rw [hrp];exact a1)];have xY:decide (n.pQ∈upR rs k np)=false:=by rw [<-inn];exact a2
   refine W.qC (W.xA rfl (W.cI (lA (Ao.get c2)) (W.cG (by rfl) (W.la rfl (W.li (lA (Ao.get c3)) (W.en rfl ?_))))));refine BE X2.rows huR (aE hk (by decide)) λh3 r3 p3 hr3 hl3=>W.lK hl3 ?_;rw [xY];have Bi:Pre h h3:=(Pre.app _ _).trans p3;refine W.DG (W.stN (W.stC (W.sIf (W.RC (W.qB rfl (W.cG (by rfl) (W.li (Bi.get (Ao.get c4)) (W.en rfl ?_))))))));refine IB hz λh4 p4=>W.jA (λZ=>rfl) ?_;rw [a3];refine W.stC (W.pA (W.nF rfl rfl (p4.get (p3.get oA)) (W.lo rfl (i03 rfl rfl (W.iA rfl (i03 rfl rfl (W.iA rfl (i03 rfl rfl ?_))))))));rw [aF rfl];exact q1 h4 (p1.trans (Ao.trans (Bi.trans p4)))
  ·refine i12 _ rfl ?_;have X2:=X1.pre (Pre.app h [O.tup [.str "Exists",.int 0]]);refine W.asN rfl (W.stC (W.sIf (W.oF (W.qC (W.xA rfl (W.PA X2.rows hr (j:=0) ⟨by decide,by decide⟩ rfl (W.lo rfl (i03 rfl rfl (W.cI (lA (Ao.get c2)) (i03 rfl rfl (W.iA rfl (i03 rfl rfl (W.iA rfl (W.jA (a:=decide (r.par=0)) (λZ=>rfl) ?_))))))))))))));rw [bE (by rw [hrp];exact a1)];have xY:decide (n.pQ∈upR rs k np)=false:=by rw [<-inn];exact a2
   refine W.qC (W.xA rfl (W.cI (lA (Ao.get c2)) (W.cG (by rfl) (W.la rfl (W.li (lA (Ao.get c3)) (W.en rfl ?_))))));refine BE X2.rows huR (aE hk (by decide)) λh3 r3 p3 hr3 hl3=>W.lK hl3 ?_;rw [xY];have Bi:Pre h h3:=(Pre.app _ _).trans p3;refine W.DG (W.stN (W.stC (W.sIf (W.RC (W.qB rfl (W.cG (by rfl) (W.li (Bi.get (Ao.get c4)) (W.en rfl ?_))))))));refine IB hz λh4 p4=>W.jA (λZ=>rfl) ?_;rw [a3];have As:Pre h h4:=Bi.trans p4;refine W.stN (W.stC (W.sIf (W.qB rfl (W.cG (by rfl) (W.la rfl (W.li (As.get (Ao.get c3)) (W.li (As.get (Ao.get c4)) (W.en rfl ?_))))))));refine JD (X1.pre As).rows λh5 p5=>W.jA (λZ=>rfl) ?_;rw [<-link,a4];refine W.stC (W.pA (W.nF rfl rfl (p5.get (p4.get (p3.get oA))) (W.lo rfl (i03 rfl rfl (W.iA rfl (i03 rfl rfl (W.iA rfl (i03 rfl rfl ?_))))))));rw [aF rfl];exact q1 h5 (p1.trans (Ao.trans (As.trans p5)))
end
end
section
section
variable {A:Adr} {R:Nat} {hY:Int}
theorem JJ(X:Wld H0 A R hY ns rs){n:Nd}(hp:ndAt ns n.pQ=some n)(hr:rwAt rs n.pQ=some r)(hrp:r.par=n.par){k1:Nat}
  (link:n.kQ.isEmpty= !(rs.any λc=>decide (c.par=n.pQ)))
  (ok:n.par≠0->n.kQ= []->∃ o x0,DropOk ns n o x0 k1) {Q:V->S->Prop}
  (q1:∀ h,Pre H0 h->Q (.bool true) {h:=h,l:=L0})
  (q2:n.par≠0->n.kQ= []->∀ o x0,DropOk ns n o x0 k1->∀ h,Wld h A R hY (rmNd (tA k1 (mv1 ns o x0) n.par 0 (0 - n.share)) n.pQ) (rmRw rs n.pQ)->Nxt H0 (wC A R ns rs) h (wC A R (rmNd (tA k1 (mv1 ns o x0) n.par 0 (0 - n.share)) n.pQ) (rmRw rs n.pQ))->Q (.bool true) {h:=h,l:=L0}):
  W (pg w) (λF=>F.call (.glob 487) [.ref A.b,.ref R,.int n.pQ] (d+9)) Q E ⟨H0,L0⟩:=by
 refine W.fnE (P:=pg w) rfl ?_;intro m h1 hm p1 hc P J J' E' L';have c1:h1[m]? =some (.cell (some (.ref A.b))):=hc 0 _ rfl;have c2:h1[m+1]? =some (.cell (some (.ref R))):=hc 1 _ rfl;have c3:h1[m+2]? =some (.cell (some (.int n.pQ))):=hc 2 _ rfl;clear hc;obtain x21|nt|zp|Rp:=X.rep;obtain x02|Bg|hrpl:=HA hr;obtain x02|Ai|u_:=wA hp;have hplc:=Rp.places n Ai;refine W.stC (W.sA (W.cG (by rfl) (W.yD (cells:=_) rfl rfl λhL pL eL=>⟨rfl,?_⟩)));have p2:Pre H0 hL:=p1.trans pL;refine zC (d:=d+7) eL (Qv:=λv h=>v= .none/\(n.par≠0/\n.kQ= [])/\∃ o x0,DropOk ns n o x0 k1/\(∃ nt' zp',Rep ⟨h,[]⟩ A hY (rmNd (tA k1 (mv1 ns o x0) n.par 0 (0 - n.share)) n.pQ) nt' zp')/\Keep (foot A ns) hL h/\(∀ i∈foot A (rmNd (tA k1 (mv1 ns o x0) n.par 0 (0 - n.share)) n.pQ),i∈foot A ns))
  (Ec:=λC h=>Pre hL h/\((C=111/\n.par=0)\/(C=75/\n.par≠0/\n.kQ≠ []))) (λlo=>?_) (λv h ii=>?_) (λC h ⟨hp1,hC⟩=>?_)
 ·refine W.lam eL rfl (W.cG (by rfl) (W.lf (pL.get c1) (W.lf (pL.get c3) (W.en rfl ?_))));refine TN (Rp.on p2 _) hp ok (λa1 a2 o x0 M h nt' zp' R1 kk ff=>⟨i03 rfl ⟨a1,a2⟩ ⟨o,x0,M,i21 nt' zp' R1,kk,ff⟩,rfl⟩) (λh iZ h0=>⟨iZ,.inl ⟨rfl,h0⟩⟩) (λh iZ a1 a2=>⟨iZ,.inr (i03 rfl a1 a2)⟩)
 ·obtain x03|hv|Dn|Do:=ii;obtain x02|Bd|hkn:=Dn;obtain x24|o|x0|M|Dp|k1'|f1:=Do;obtain x21|nt'|zp'|R1:=Dp;subst hv;have kk:Keep (foot A ns) h1 h:=Keep.trans (Keep.of_pre pL) k1';have lm:H0.length<=h1.length:=p1.len;have Bs:∀ j,m<=j->j∉foot A ns:=λj hj hi=>aS (Rp.len j hi) (cB.mpr (aE (bV hm) hj));have d1:=kk.2 _ _ c1 (Bs _ (aY _));have d2:=kk.2 _ _ c2 (Bs _ (bM ..));have d3:=kk.2 _ _ c3 (Bs _ (bM ..));have k0:Keep (foot A ns) H0 h:=Keep.trans (Keep.of_pre p1) kk;have X1:Wld h A R hY (rmNd (tA k1 (mv1 ns o x0) n.par 0 (0 - n.share)) n.pQ) rs:=X.base k0 (i21 nt' zp' R1) f1;have X2:=X1.pre (Pre.app h [O.tup [.str "told",.none]]);have hany:(rs.any λc=>decide (c.par=n.pQ))=false:=by
   rw [hkn] at link;simpa using link
  refine W.asN rfl (W.stC (W.sIf (W.xA rfl (W.PA X2.rows hr (j:=0) ⟨by decide,by decide⟩ rfl (W.cI (lA d2) (i03 rfl rfl (W.cI (lA d3) (i03 rfl rfl (W.iA rfl (i03 rfl rfl (W.iA rfl (W.jA (a:=decide (r.par=0)) (λZ=>rfl) ?_))))))))))));rw [bE (by rw [hrp];exact Bd)];refine W.stN (W.stC (W.sIf (W.xA rfl (W.WB (cells:=_) (λc=>decide (c.par=n.pQ)) (λc=> .int c.pQ) rfl rfl rfl X2.rows (W.cI (lA d2) ⟨rfl,rfl⟩) ?_ ?_ ?_))))
  ·intro c hc h' lo hp' hlo;refine W.ED (W.xA rfl (W.PA (X2.rows.pre hp') (yA X.rows.pnd hc) (j:=0) ⟨by decide,by decide⟩ rfl (W.cI (hp'.get (lA d2)) (i03 rfl rfl (W.lo hlo (i03 rfl rfl (W.iA rfl (i03 rfl rfl (W.cI (hp'.get (lA d3)) ?_)))))))));exact W.jA (a:=decide (c.par=n.pQ)) (λZ=>rfl) (i03 rfl (Pre.refl _) rfl)
  ·intro c hc hg h' lo hp' hlo;exact W.lo hlo (i03 rfl (Pre.refl _) rfl)
  ·intro h3 acc p3 ha jY;refine W.list rfl rfl (W.mH (lA jY) oA ?_);rw [lG,hany];have As:Pre (h++ [O.tup [.str "told",.none]]) (h3++ [O.list []]):=p3.trans (Pre.app _ _);have X4:=X2.pre As;have tl:=As.get (oA (h:=h) (o:=O.tup [.str "told",.none]));have e1:=As.get (lA (t:= [O.tup [.str "told",.none]]) d1);have e2:=As.get (lA (t:= [O.tup [.str "told",.none]]) d2);have e3:=As.get (lA (t:= [O.tup [.str "told",.none]]) d3);have k4:Keep (foot A ns) H0 (h3++ [O.list []]):=k0.trans (Keep.of_pre ((Pre.app _ _).trans As));refine W.heap (h':=h3++ [O.list []]) rfl ?_
   revert As X4 tl e1 e2 e3 k4;refine genI (h3++ [O.list []]) ?_;intro h4 As X4 tl e1 e2 e3 k4
   obtain x11|kR|eR:=X4.rows.dict;refine W.stN (W.stC (W.iB rfl (W.KA rfl rfl rfl (W.cI e2 (W.YO eR (W.li e3 (W.en rfl (W.bi (W.UT eR (by rw [LF,Bool.true_and];exact aF (aE (bV (aO _)) (aE X.rows.len (by decide)))) (v:= .ref r.rr) (by rw [KF,hr];rfl) ?_)))))))));have hRl:R < H0.length:=X.len R (bO _ (.head _));have l0:H0.length<=h.length:=k0.1;have X5r:=X4.rows.rm eR n.pQ (kR+1);have Bc:Keep [R] h4 (h4.set R (.dict (zB (.int n.pQ) (UA rs)) (kR+1))):=(Keep.refl _ _).set (.inl (.head _));obtain x21|nt4|zp4|R4:=X4.rep;have tZ:R∉foot A (rmNd (tA k1 (mv1 ns o x0) n.par 0 (0 - n.share)) n.pQ):=λhi=>X.apart R (.head _) (f1 R hi);have R5:=R4.keepF Bc λi hi Au=>by
    rw [aH.mp Au] at hi;exact tZ hi
   have tl5:=Bc.2 _ _ tl (nsl (aT hRl l0));have e15:=Bc.2 _ _ e1 (nsl (aT hRl (qm (k:=0) hm)));have e35:=Bc.2 _ _ e3 (nsl (aT hRl (qm hm)));have lY:Keep (wC A R ns rs) H0 (h4.set R (.dict (zB (.int n.pQ) (UA rs)) (kR+1))):=(k4.mono λi hi=>cA _ hi).trans (Bc.mono λi hi=>bO _ (by rw [aH.mp hi];exact .head _))
   revert X5r R5 tl5 e15 e35 lY;refine genI (h4.set R (.dict (zB (.int n.pQ) (UA rs)) (kR+1))) ?_;intro h5 X5r R5 tl5 e15 e35 lY
   refine W.stC (W.pA (W.and (W.UD rfl (W.lo rfl (W.TB rfl rfl (W.iA rfl (W.iA rfl (W.eqT (lA tl5) oA (b:=decide (("told" :Str)="told") && (true && true)) rfl (W.pure ?_)))))))));rw [aF rfl];have R6:=R5.on (Pre.app h5 [O.tup [.str "told",.none]]);obtain x11|kb|ownb:=(R6 []).base.own;refine W.VI (W.not (W.KA rfl rfl rfl (W.cI (lA e15) (W.YA (R6 []).base.inst ownb jM rfl rfl (W.li (lA e35) (W.em (by rfl) (jO (λZ=>rfl) (R6 _).base (W.pure ?_))))))));have z1:IA (.int n.pQ) nt4=none:=by
    rw [R4.hnotes,oM,aN rfl];rfl
   have z2:IA (.int n.pQ) zp4=none:=R4.znone n.pQ hplc.1 (n41 hplc.2.1);rw [z1,z2];refine q2 Bd hkn o x0 M _ ⟨i21 nt4 zp4 (R6 []),X5r.pre (Pre.app _ _),λi hi Au=>?_⟩ ⟨lY.trans (Keep.of_pre (Pre.app _ _)),λi hi=> .inl ?_⟩
   ·refine X.apart i ?_ (f1 i Au);rcases aZ.mp hi with hi | hi
    ·rw [hi];exact .head _
    ·exact cU _ ((List.filter_sublist.map _).subset hi)
   ·rcases bR.mp hi with hi | hi
    ·exact cA _ (f1 i hi)
    ·refine bO _ ?_;rcases aZ.mp hi with hi | hi
     ·rw [hi];exact .head _
     ·exact cU _ ((List.filter_sublist.map _).subset hi)
 ·have Ao:Pre h1 h:=pL.trans hp1;have X1:=X.pre (p1.trans Ao);rcases hC with ⟨rfl,h0⟩ | ⟨rfl,a1,a2⟩
  ·refine i12 _ rfl ?_;have X2:=X1.pre (Pre.app h [O.tup [.str "InvalidPath",.int 0]]);refine W.asN rfl (W.stC (W.sIf (W.xA rfl (W.PA X2.rows hr (j:=0) ⟨by decide,by decide⟩ rfl (W.cI (lA (Ao.get c2)) (i03 rfl rfl (W.cI (lA (Ao.get c3)) (i03 rfl rfl (W.iA rfl (i03 rfl rfl (W.iA rfl (W.jA (a:=decide (r.par=0)) (λZ=>rfl) ?_))))))))))));rw [aF (by rw [hrp];exact h0)];refine W.stC (W.pA (W.nF rfl rfl oA (W.lo rfl (i03 rfl rfl (W.iA rfl (i03 rfl rfl (W.iA rfl (i03 rfl rfl ?_))))))));rw [aF rfl];exact q1 _ (p1.trans (Ao.trans (Pre.app _ _)))
  ·refine i12 _ rfl ?_;have X2:=X1.pre (Pre.app h [O.tup [.str "Busy",.int 0]]);have hany:(rs.any λc=>decide (c.par=n.pQ))=true:=by
    have:n.kQ.isEmpty=false:=by cases hk:n.kQ with
     | nil=>exact aS hk a2
     | cons=>rfl
    rw [this] at link;cases hb:(rs.any λc=>decide (c.par=n.pQ)) with
    | true=>rfl
    | false=>rw [hb] at link;cases link
   refine W.asN rfl (W.stC (W.sIf (W.xA rfl (W.PA X2.rows hr (j:=0) ⟨by decide,by decide⟩ rfl (W.cI (lA (Ao.get c2)) (i03 rfl rfl (W.cI (lA (Ao.get c3)) (i03 rfl rfl (W.iA rfl (i03 rfl rfl (W.iA rfl (W.jA (a:=decide (r.par=0)) (λZ=>rfl) ?_))))))))))));rw [bE (by rw [hrp];exact a1)];refine W.stN (W.stC (W.sIf (W.xA rfl (W.WB (cells:=_) (λc=>decide (c.par=n.pQ)) (λc=> .int c.pQ) rfl rfl rfl X2.rows (W.cI (lA (Ao.get c2)) ⟨rfl,rfl⟩) ?_ ?_ ?_))))
   ·intro c hc h' lo hp' hlo;refine W.ED (W.xA rfl (W.PA (X2.rows.pre hp') (yA X.rows.pnd hc) (j:=0) ⟨by decide,by decide⟩ rfl (W.cI (hp'.get (lA (Ao.get c2))) (i03 rfl rfl (W.lo hlo (i03 rfl rfl (W.iA rfl (i03 rfl rfl (W.cI (hp'.get (lA (Ao.get c3))) ?_)))))))));exact W.jA (a:=decide (c.par=n.pQ)) (λZ=>rfl) (i03 rfl (Pre.refl _) rfl)
   ·intro c hc hg h' lo hp' hlo;exact W.lo hlo (i03 rfl (Pre.refl _) rfl)
   ·intro h3 acc p3 ha jY;refine W.list rfl rfl (W.mH (lA jY) oA ?_);rw [lG,hany];refine W.stC (W.pA (W.nF rfl rfl (lA (p3.get oA)) (W.lo rfl (i03 rfl rfl (W.iA rfl (i03 rfl rfl (W.iA rfl (i03 rfl rfl ?_))))))));rw [aF rfl];exact q1 _ (p1.trans (Ao.trans ((Pre.app _ _).trans (p3.trans (Pre.app _ _)))))
end
end
theorem PQ [DecidableEq α]:∀ {l l':List α},l.Nodup->(∀ x∈l,x∈l')->l.length<=l'.length:=by
 intro l
 induction l with
 | nil=>intro _ _ _;exact dA _
 | cons a t ih=>
  intro l' nd h;rw [bN] at nd;have ha:=h a (.head _);have ih:=ih nd.2 λx hx=>by
   have hne:x≠a:=λz=>nd.1 (z▸hx);exact (List.mem_erase_of_ne hne).mpr (h x (.tail _ hx))
  rw [List.length_erase_of_mem ha] at ih;exact aE (bP ih) (bV (Nat.sub_add_cancel (List.length_pos_of_mem ha)))
theorem LW:∀ (D:Nat) (l:List Nat),(∀ j,1<=j->j<=D->j∈l)->D<=l.length
 | D,l,h=>by
  have:=PQ (l:=(List.range D).map (· +1)) (l':=l) ?_ ?_
  ·simpa using this
  ·refine (List.pairwise_map.mpr ?_);exact List.nodup_range.imp λh z=>h (by simpa using z)
  ·intro x hx;obtain x12|i|hi|rfl:=aL.mp hx;have:i < D:=by simpa using hi
   exact h _ (cH 1 i) this
noncomputable def sumF(l:List α)(f:α->Int):Int:=(l.map f).sum
theorem jH(f:α->Int):sumF [] f=0:=rfl
theorem xB(a:α)(l:List α)(f:α->Int):sumF (a::l) f=f a+sumF l f:=by unfold sumF;rw [bJ,gA]
theorem BT(l l':List α)(f:α->Int):sumF (l++l') f=sumF l f+sumF l' f:=by
 induction l with
 | nil=>rw [List.nil_append,jH];exact (fW _).symm
 | cons a r ih=>rw [fM,xB,xB,ih];exact (dD ..).symm
theorem KB{l:List α}{f g:α->Int}(h:∀ a∈l,f a=g a):sumF l f=sumF l g:=by
 unfold sumF;rw [bZ h]
theorem GR{l:List α}{f:α->Int}{B:Int}(h:∀ a∈l,f a<=B):sumF l f<=l.length*B:=by
 induction l with
 | nil=>rw [jH];simp
 | cons a r ih=>
  have h1:=h a (.head _);have h2:=ih λb hb=>h b (.tail _ hb);rw [xB,fN];have:((r.length+1:Nat):Int)*B=(r.length:Int)*B+B:=by rw [Int.natCast_add,Int.add_mul];simp
  rw [this,Int.add_comm];exact Int.add_le_add h2 h1
theorem DM{l:List α}{f:α->Int}(h:∀ a∈l,0<=f a):0<=sumF l f:=by
 induction l with
 | nil=>rw [jH];decide
 | cons a r ih=>
  have h1:=h a (.head _);have h2:=ih λb hb=>h b (.tail _ hb);rw [xB];exact Int.add_nonneg h1 h2
theorem XH(l:List α)(g:α->Bool)(f:α->Int):((l.filter g).map f).sum=sumF l λa=>if g a=true then f a else 0:=by
 induction l with
 | nil=>rfl
 | cons a r ih=>
  rw [dH,xB,<-ih];by_cases h:g a=true
  ·rw [aN h,aN h,bJ,gA]
  ·rw [aJ h,aJ h];exact (fW _).symm
theorem GN(ns:List Nd){n m:Nd}(nd:(ns.map (·.pQ)).Nodup)(hn:n∈ns)(hp:m.pQ=n.pQ)(f:Nd->Int):sumF (NA ns m) f=sumF ns f+(f m - f n):=by
 induction ns with
 | nil=>cases hn
 | cons a r ih=>
  rw [bJ,bN] at nd;have e:NA (a::r) m=(if a.pQ=m.pQ then m else a)::NA r m:=rfl;rw [e,xB,xB];rcases aZ.mp hn with rfl | hn
  ·rw [aN hp.symm];have:NA r m=r:=by
    unfold NA;refine (bZ (g:=id) λb hb=>?_).trans (List.map_id _);have:b.pQ≠m.pQ:=λz=>nd.1 (by rw [<-hp,<-z];exact bI hb);show (if b.pQ=m.pQ then m else b)=b;rw [aJ this]
   rw [this];exact ud1
  ·have:a.pQ≠m.pQ:=λz=>nd.1 (by rw [z,hp];exact bI hn);rw [aJ this,ih nd.2 hn];exact (dD ..).symm
theorem IV(ns:List Nd)(p:Int)(f:Nd->Int):sumF (rmNd ns p) f=sumF ns λc=>if c.pQ=p then 0 else f c:=by
 induction ns with
 | nil=>rfl
 | cons a r ih=>
  have e:rmNd (a::r) p=if a.pQ≠p then a::rmNd r p else rmNd r p:=by
   unfold rmNd;rw [dH];simp
  rw [e,xB];by_cases h:a.pQ=p
  ·rw [aJ (λz=>z h),aN h,ih];exact (fW _).symm
  ·rw [aN h,aJ h,xB,ih]
theorem jL{lt:α->α->Prop}(irr:∀ a,¬ lt a a)(tr:∀ a b c,lt a b->lt b c->lt a c):∀ {l l':List α},l.Pairwise lt->l'.Pairwise lt->(∀ x,x∈l ↔ x∈l')->l=l':=by
 intro l
 induction l with
 | nil=>
  intro l' _ _ h
  induction l' using lCq with
  | nil=>rfl
  | cons b _=>exact aS ((h b).mpr (.head _)) cR
 | cons a t ih=>
  intro l' p p' h
  induction l' using lCq with
  | nil=>exact aS ((h a).mp (.head _)) cR
  | cons b t'=>
   rw [dE] at p p';have hab:a=b:=by
    rcases aZ.mp ((h a).mp (.head _)) with h1 | h1
    ·exact h1
    ·rcases aZ.mp ((h b).mpr (.head _)) with h2 | h2
     ·exact h2.symm
     ·exact aS (tr _ _ _ (p.1 b h2) (p'.1 a h1)) (irr a)
   subst hab;refine aU (List.cons a) (ih p.2 p'.2 λx=>?_);have hx:=h x;rw [aZ,aZ] at hx;exact ⟨λm=>(hx.mp (.inr m)).elim (λz=>aS (p.1 x m) (z▸irr a)) id,λm=>(hx.mpr (.inr m)).elim (λz=>aS (p'.1 x m) (z▸irr a)) id⟩
theorem zQ{lt:α->α->Bool}{D:α->Prop}(tri:∀ a b,D a->D b->a≠b->lt a b=true\/lt b a=true)(tr:∀ a b c,D a->D b->D c->lt a b=true->lt b c=true->lt a c=true)(x:α)(hx:D x):
  ∀ l:List α,(∀ y∈l,D y)->x∉l->l.Pairwise (λa b=>lt a b=true)->(JE lt x l).Pairwise (λa b=>lt a b=true):=by
 intro l
 induction l with
 | nil=>intro _ _ _;exact List.pairwise_singleton _ _
 | cons y r ih=>
  intro hD hne p;rw [dE] at p;rw [pG];by_cases h:lt y x=true
  ·rw [aN h,dE];refine ⟨λz hz=>?_,ih (λy hy=>hD y (.tail _ hy)) (λz=>hne (.tail _ z)) p.2⟩;rcases (zH lt x r z).mp hz with hz | hz
   ·subst hz;exact h
   ·exact p.1 z hz
  ·rw [aJ h,dE];have hxy:lt x y=true:=(tri x y hx (hD y (.head _)) (λz=>hne (by rw [z];exact .head _))).resolve_right h;refine ⟨λz hz=>?_,dE.mpr p⟩;rcases aZ.mp hz with hz | hz
   ·subst hz;exact hxy
   ·exact tr x y z hx (hD y (.head _)) (hD z (.tail _ hz)) hxy (p.1 z hz)
theorem IE{lt:α->α->Bool}{D:α->Prop}(tri:∀ a b,D a->D b->a≠b->lt a b=true\/lt b a=true)(tr:∀ a b c,D a->D b->D c->lt a b=true->lt b c=true->lt a c=true):
  ∀ l:List α,(∀ y∈l,D y)->l.Nodup->(SA lt l).Pairwise (λa b=>lt a b=true):=by
 intro l
 induction l with
 | nil=>intro _ _;exact List.Pairwise.nil
 | cons x r ih=>
  intro hD nd;rw [bN] at nd;rw [HE];refine zQ tri tr x (hD x (.head _)) _ (λy hy=>hD y (.tail _ ((pB _ _ y).mp hy))) (λz=>nd.1 ((pB _ _ x).mp z)) (ih (λy hy=>hD y (.tail _ hy)) nd.2)
noncomputable def yW:List Str:=lawNames.filter MA
theorem CF:∀ a∈lawNames,∀ b∈lawNames,a≠b->jB a b=true\/jB b a=true:=by decide+kernel
theorem YG:∀ a∈lawNames,∀ b∈lawNames,∀ c∈lawNames,jB a b=true->jB b c=true->jB a c=true:=by decide+kernel
theorem CM(a:Str):¬ jB a a=true:=by
 unfold jB;rw [decide_eq_true_eq];exact List.lt_irrefl _
theorem zV:∀ a b:Str×Int,a.1∈lawNames->b.1∈lawNames->a≠b->plt a b=true\/plt b a=true:=λa b ha hb hne=>by
 unfold plt;by_cases h:a.1=b.1
 ·have h2:a.2≠b.2:=λz=>hne (Prod.ext h z);rcases Int.lt_or_gt_of_ne h2 with h3 | h3
  ·left;simp [h,h3]
  ·right;simp [h,h3]
 ·rcases CF _ ha _ hb h with h1 | h1
  ·left;simp [h1]
  ·right;simp [h1]
theorem MW:∀ a b c:Str×Int,a.1∈lawNames->b.1∈lawNames->c.1∈lawNames->plt a b=true->plt b c=true->plt a c=true:=λa b c ha hb hc h1 h2=>by
 unfold plt at h1 h2 ⊢;simp only [Bool.or_eq_true,Bool.and_eq_true,decide_eq_true_eq] at h1 h2 ⊢;rcases h1 with h1 | ⟨h1,h1'⟩
 ·rcases h2 with h2 | ⟨h2,h2'⟩
  ·exact .inl (YG _ ha _ hb _ hc h1 h2)
  ·exact .inl (h2▸h1)
 ·rcases h2 with h2 | ⟨h2,h2'⟩
  ·exact .inl (h1▸h2)
  ·exact .inr ⟨h1.trans h2,fB h1' h2'⟩
theorem HO{l l':List Str}(h1:∀ x∈l,x∈lawNames)(n1:l.Nodup)(n2:l'.Nodup)(h:∀ x,x∈l ↔ x∈l'):SA jB l=SA jB l':=by
 have s1:=IE (lt:=jB) (D:=(· ∈lawNames)) (λa b ha hb=>CF a ha b hb) (λa b c ha hb hc=>YG a ha b hb c hc) l h1 n1;have s2:=IE (lt:=jB) (D:=(· ∈lawNames)) (λa b ha hb=>CF a ha b hb) (λa b c ha hb hc=>YG a ha b hb c hc) l' (λx hx=>h1 x ((h x).mpr hx)) n2;refine jL (lt:=λa b=>jB a b=true) CM (λa b c x y=>?_) s1 s2 λx=>by rw [pB,pB];exact h x
 have lt1:a.cps.toList < b.cps.toList:=by simpa [jB] using x
 have lt2:b.cps.toList < c.cps.toList:=by simpa [jB] using y
 show decide _=true;exact aF (List.lt_trans lt1 lt2)
noncomputable def CH(c:Nat):List (List Nat)->List Nat
 | []=> []
 | [x]=>x
 | x::y::r=>x++c::CH c (y::r)
theorem FQ(c:Nat):∀ {l l':List (List Nat)},l≠ []->l'≠ []->(∀ p∈l,c∉p)->(∀ p∈l',c∉p)->CH c l=CH c l'->l=l':=by
 have one:∀ (p q t u:List Nat),c∉p->c∉q->p++c::t=q++c::u->p=q/\t=u:=by
  intro p
  induction p with
  | nil=>
   intro q t u _ hq e
   induction q using lCq with
   | nil=>simpa using e
   | cons b s=>
    simp only [List.nil_append,List.cons_append,List.cons.injEq] at e;exact aS (e.1▸List.mem_cons_self) hq
  | cons a r ih=>
   intro q t u hp hq e
   induction q using lCq with
   | nil=>
    simp only [List.nil_append,List.cons_append,List.cons.injEq] at e;exact aS (e.1▸List.mem_cons_self) hp
   | cons b s=>
    simp only [List.cons_append,List.cons.injEq] at e;obtain x02|h1|h2:=ih s t u (λz=>hp (.tail _ z)) (λz=>hq (.tail _ z)) e.2;exact ⟨by rw [e.1,h1],h2⟩
 intro l
 induction l with
 | nil=>intro l' h;exact aS rfl h
 | cons x r ih=>
  intro l' _ h2 f1 f2 e
  induction l' using lCq with
  | nil=>exact aS rfl h2
  | cons x' r'=>
   induction r using lCq with
   | nil=>
    induction r' using lCq with
    | nil=>have e':x=x':=e;rw [e']
    | cons y' s'=>
     have e':x=x'++c::CH c (y'::s'):=e;have:=f1 x (.head _);rw [e'] at this;exact aS (bO _ (.head _)) this
   | cons y s=>
    induction r' using lCq with
    | nil=>
     have e':x++c::CH c (y::s)=x':=e;have:=f2 x' (.head _);rw [<-e'] at this;exact aS (bO _ (.head _)) this
    | cons y' s'=>
     obtain x02|h3|h4:=one x x' _ _ (f1 x (.head _)) (f2 x' (.head _)) e;rw [h3,ih (dB _ _) (dB _ _) (λp hp=>f1 p (.tail _ hp)) (λp hp=>f2 p (.tail _ hp)) h4]
theorem DH(c:Nat):∀ l:List Str,(Str.join ⟨#[c]⟩ l).cps.toList=CH c (l.map (·.cps.toList)):=by
 intro l
 induction l with
 | nil=>rfl
 | cons x l ih=>
  induction l using lCq with
  | nil=>rfl
  | cons y r=>
   show (x++(⟨#[c]⟩:Str)++Str.join ⟨#[c]⟩ (y::r)).cps.toList=_;rw [Str.cps_append,Str.cps_append,gN,gN,ih];show x.cps.toList++ [c]++CH c ((y::r).map (·.cps.toList))=x.cps.toList++c::CH c ((y::r).map (·.cps.toList));exact eT ..
theorem uT:("/" :Str)=⟨#[47]⟩:=by decide+kernel
theorem TF(l:List Str):Txt.join "/" l=Str.join ⟨#[47]⟩ l:=by
 rw [<-uT];exact StrLaws.glued_eq_join _ _
theorem PI{l:List Str}(h:l≠ [])(hf:∀ p∈l,47∉p.cps.toList):Txt.split (Txt.join "/" l) "/"=l:=by
 have e:=StrLaws.join_split (Txt.join "/" l) ⟨#[47]⟩;have fr:=StrLaws.split_free (Txt.join "/" l) 47;have ps:=split_pos (Txt.join "/" l) ⟨#[47]⟩;rw [uT];rw [uT] at e fr ps
 revert e fr ps;refine genI (Txt.split (Txt.join ⟨#[47]⟩ l) ⟨#[47]⟩) ?_;intro l' e fr ps
 have e2:Txt.join ⟨#[47]⟩ l=Str.join ⟨#[47]⟩ l:=StrLaws.glued_eq_join _ _;rw [e2] at e;have e3:CH 47 (l'.map (·.cps.toList))=CH 47 (l.map (·.cps.toList)):=by rw [<-DH,<-DH,e]
 have ne:l'≠ []:=λz=>by rw [z] at ps;simp at ps
 have e4:=FQ 47 (by simpa using ne) (by simpa using h) (λp hp=>by
  obtain x12|q|hq|rfl:=aL.mp hp;exact fr q hq) (λp hp=>by
  obtain x12|q|hq|rfl:=aL.mp hp;exact hf q hq) e3
 refine List.map_inj_right (f:=λx:Str=>x.cps.toList) (λa b hab=>?_) |>.mp e4
 induction a;induction b
 simp only [Array.toList_inj] at hab;rw [hab]
theorem CD:∀ p∈lawNames,MA p=true->47∉p.cps.toList/\p≠""/\p.length<=12/\p≠"nothing":=by decide+kernel
theorem GQ{l:List Str}(h:l≠ [])(hf:∀ p∈l,p≠""):Txt.join "/" l≠"":=by
 intro z;have e:(Txt.join "/" l).cps.toList=("" :Str).cps.toList:=aU (λx:Str=>x.cps.toList) z;rw [TF,DH] at e;have e0:("" :Str).cps.toList= []:=by decide+kernel
 rw [e0] at e
 induction l using lCq with
 | nil=>exact h rfl
 | cons x r=>
  have hx:x.cps.toList= []:=by
   induction r using lCq with
   | nil=>exact e
   | cons y s=>
    have e':x.cps.toList++47::CH 47 ((y::s).map (·.cps.toList))= []:=e;simp at e'
  refine hf x (.head _) ?_;have e1:("" :Str)=⟨#[]⟩:=by decide+kernel
  rw [e1]
  induction x
  simp only [Array.toList_eq_nil_iff] at hx;rw [hx]
theorem zO{l:List Str}(hf:∀ p∈l,p∈lawNames/\MA p=true):wB (Txt.join "/" l)=l:=by
 induction l using lCq with
 | nil=>exact aN (by decide+kernel:Txt.join "/" []="")
 | cons x r=>
  unfold wB;rw [aJ (GQ (dB _ _) λp hp=>(CD p (hf p hp).1 (hf p hp).2).2.1)];exact PI (dB _ _) λp hp=>(CD p (hf p hp).1 (hf p hp).2).1
theorem NK:47∉("nothing" :Str).cps.toList/\47∉("" :Str).cps.toList:=by decide+kernel
theorem HQ(x:Str)(l:List Str)(h:l≠ []):Txt.join "/" l++"/"++x=Txt.join "/" (l++ [x]):=by
 rw [TF,TF,uT]
 induction l with
 | nil=>exact aS rfl h
 | cons a r ih=>
  induction r using lCq with
  | nil=>rfl
  | cons b s=>
   have ih:=ih (dB _ _);show a++(⟨#[47]⟩:Str)++Str.join ⟨#[47]⟩ (b::s)++⟨#[47]⟩++x=a++(⟨#[47]⟩:Str)++Str.join ⟨#[47]⟩ (b::s++ [x]);rw [<-ih];simp only [Str.append_assoc]
theorem TJ{l:List Str}(hf:∀ p∈l,p∈lawNames/\MA p=true):wB (Txt.join "/" l++"/nothing")=if l= [] then [("" :Str),("nothing" :Str)] else l++ [("nothing" :Str)]:=by
 have e1:("/nothing" :Str)=("/" :Str)++"nothing":=by decide+kernel
 induction l using lCq with
 | nil=>rw [aN rfl];decide+kernel
 | cons x r=>
  rw [aJ (dB _ _),e1,<-Str.append_assoc,HQ _ _ (dB _ _)];have hne:∀ p∈(x::r)++ [("nothing" :Str)],p≠"":=λp hp=>by
   rcases bR.mp hp with hp | hp
   ·exact (CD p (hf p hp).1 (hf p hp).2).2.1
   ·rw [aH.mp hp];decide+kernel
  unfold wB;rw [aJ (GQ (dB _ _) hne)];refine PI (dB _ _) λp hp=>?_;rcases bR.mp hp with hp | hp
  ·exact (CD p (hf p hp).1 (hf p hp).2).1
  ·rw [aH.mp hp];exact NK.1
theorem iT:wB "a//b"= [("a" :Str),("" :Str),("b" :Str)]:=by decide+kernel
section
structure Tree(ps:List (Int×Int))(dep:Int->Nat):Prop where
 zero:dep 0=0
 up:∀ e∈ps,dep e.1=dep e.2+1/\(e.2=0\/∃ f∈ps,f.1=e.2)
theorem Tree.chain{ps:List (Int×Int)}(T:Tree ps dep):∀ (D:Nat) (e:Int×Int),e∈ps->dep e.1=D->∀ j,1<=j->j<=D->∃ f∈ps,dep f.1=j:=by
 intro D
 induction D with
 | zero=>intro e he hd j h1 h2;exact aS (aE h1 h2) (by decide)
 | succ D ih=>
  intro e he hd j h1 h2;by_cases hj:j=D+1
  ·exact ⟨e,he,by rw [hd,hj]⟩
  ·obtain x02|u1|u2:=T.up e he;rcases u2 with u2 | ⟨f,hf,u2⟩
   ·rw [u2,T.zero] at u1;exact aS (eV h2 (by rw [<-hd,u1];exact h1)) hj
   ·exact ih f hf (by rw [u2];exact Nat.succ.inj (u1.symm.trans hd)) j h1 (dI (dL h2 hj))
theorem Tree.bound{ps:List (Int×Int)}(T:Tree ps dep){e:Int×Int}(he:e∈ps):dep e.1<=ps.length:=by
 have:=LW (dep e.1) (ps.map λf=>dep f.1) λj h1 h2=>by
  obtain x12|f|hf|e2:=T.chain (dep e.1) e he rfl j h1 h2;exact aL.mpr (i12 f hf e2)
 simpa using this
noncomputable abbrev keyN(n:Nd):Int×Int×Int×Int:=(n.pQ,n.par,n.used,n.res)
noncomputable abbrev keyR(r:Rw):Int×Int×Int×Int:=(r.pQ,r.par,r.used,r.res)
noncomputable def GB(ns:List Nd)(ex p:Int):Int:=sumF ns λc=>if c.par=p/\c.pQ≠ex then c.share else 0
structure Inv(hY:Int)(ns:List Nd)(rs:List Rw)(t:Nat):Prop where
 key:rs.map keyR=ns.map keyN
 pnd:(ns.map (·.pQ)).Nodup
 pl:∀ n∈ns,4<=n.pQ/\n.pQ<=hY
 kQ:∀ p n,ndAt ns p=some n->∀ x c,n.kQ.lookup x=some c ↔ ∃ r∈rs,r.par=p/\r.name=x/\r.pQ=c
 names:∀ r∈rs,r.par≠0->r.name∈lawNames/\MA r.name=true
 root:(∃ r∈rs,r.pQ=4)/\∀ r∈rs,r.par=0 ↔ r.pQ=4
 dep:∃ dep,Tree (ns.map λn=>(n.pQ,n.par)) dep
 sums:∀ n∈ns,n.bel=GB ns (-1) n.pQ
 bnd:∀ n∈ns,(0<=n.used/\n.used<=99)/\0<=n.res/\n.res<=99
 len:ns.length<=t+1/\hY<=4+3*(t:Int)/\4<=hY
theorem sU(h:rs.map keyR=ns.map keyN)(p:Int):(rwAt rs p).map keyR=(ndAt ns p).map keyN:=by
 induction rs generalizing ns with
 | nil=>induction ns using lCq with
  | nil=>rfl
  | cons=>cases h
 | cons r rs ih=>induction ns using lCq with
  | nil=>cases h
  | cons n ns=>
   have h1:keyR r=keyN n:=(List.cons.inj h).1;have hp:r.pQ=n.pQ:=aU (·.1) h1;rw [vB];unfold rwAt;rw [fT];by_cases e:n.pQ=p
   ·rw [aN e,aF (hp.trans e)];exact aU some h1
   ·rw [aJ e,bE (λz=>e (hp▸z))];exact ih (List.cons.inj h).2
section
variable {hY:Int} {t:Nat}
theorem Inv.nd_of(I:Inv hY ns rs t){p:Int}(h:rwAt rs p=some r):∃ n,ndAt ns p=some n/\keyR r=keyN n:=by
 have e:=sU I.key p;rw [h] at e;cases hn:ndAt ns p with
 | none=>rw [hn] at e;cases e
 | some n=>rw [hn] at e;exact i12 n rfl (Option.some.inj e)
theorem Inv.rw_of(I:Inv hY ns rs t){p:Int}{n:Nd}(h:ndAt ns p=some n):∃ r,rwAt rs p=some r/\keyR r=keyN n:=by
 have e:=sU I.key p;rw [h] at e;cases hn:rwAt rs p with
 | none=>rw [hn] at e;cases e
 | some r=>rw [hn] at e;exact i12 r rfl (Option.some.inj e)
theorem II(h:rs.map keyR=ns.map keyN):rs.map (·.pQ)=ns.map (·.pQ):=by
 have:=aU (List.map (·.1)) h;rw [aP,aP] at this;exact this
theorem OS(h:rs.map keyR=ns.map keyN):(rs.map λr=>(r.pQ,r.par))=ns.map λn=>(n.pQ,n.par):=by
 have:=aU (List.map λk:Int×Int×Int×Int=>(k.1,k.2.1)) h;rw [aP,aP] at this;exact this
theorem Inv.rnd(I:Inv hY ns rs t):(rs.map (·.pQ)).Nodup:=by rw [II I.key];exact I.pnd
theorem Inv.rlen(I:Inv hY ns rs t):rs.length=ns.length:=by
 have:=aU List.length I.key;simpa using this
structure TreeR(rs:List Rw)(dep:Int->Nat):Prop where
 zero:dep 0=0
 up:∀ r∈rs,dep r.pQ=dep r.par+1/\(r.par=0\/∃ q,rwAt rs r.par=some q)
 bound:∀ r∈rs,dep r.pQ<=rs.length
 nz:∀ r∈rs,r.pQ≠0
theorem Inv.tree(I:Inv hY ns rs t)(T:Tree (ns.map λn=>(n.pQ,n.par)) dep):TreeR rs dep:=by
 rw [<-OS I.key] at T;refine ⟨T.zero,λr hr=>?_,λr hr=>?_,λr hr z=>?_⟩
 ·obtain x02|h1|h2:=T.up (r.pQ,r.par) (aL.mpr (i12 r hr rfl));refine ⟨h1,h2.imp_right λ⟨f,hf,e⟩=>?_⟩;obtain x12|q|hq|rfl:=aL.mp hf;refine ⟨q,?_⟩;have e:q.pQ=r.par:=e;rw [<-e];exact yA I.rnd hq
 ·have:=T.bound (e:=(r.pQ,r.par)) (aL.mpr (i12 r hr rfl));simpa using this
 ·have:(0:Int)∈rs.map (·.pQ):=aL.mpr (i12 r hr z);rw [II I.key] at this;obtain x12|n|hn|e:=aL.mp this;have:=I.pl n hn;exact nn0 this.1 e
theorem TreeR.climb(T:TreeR rs dep):∀ (k:Nat) (p:Int),(p=0\/∃ r,rwAt rs p=some r)->dep p<=k->MD rs k p:=by
 intro k
 induction k with
 | zero=>
  intro p h hk;rcases h with h | ⟨r,h⟩
  ·exact h
  ·obtain x02|hr|hp:=HA h;have:=(T.up r hr).1;rw [hp] at this;exact aS (this▸hk) (dY _)
 | succ k ih=>
  intro p h hk;rcases h with h | ⟨r,h⟩
  ·exact .inl h
  ·obtain x02|hr|hp:=HA h;obtain x02|h1|h2:=T.up r hr;rw [hp] at h1;exact .inr (i12 r h (ih r.par h2 (ls h1 hk)))
theorem TreeR.deep(T:TreeR rs dep):∀ (k:Nat) (p:Int),(∃ r,rwAt rs p=some r)->rs.length+1<=dep p+k->Deep rs k p:=by
 intro k
 induction k with
 | zero=>
  intro p h hk;obtain x11|r|h:=h;obtain x02|hr|hp:=HA h;have:=T.bound r hr;rw [hp] at this;exact aS (aE hk this) (gC _)
 | succ k ih=>
  intro p h hk c hc hcp;have h1:=(T.up c hc).1;rw [hcp] at h1;refine ih c.pQ ?_ (by rw [h1];exact n16 hk);rcases h2:rwAt rs c.pQ with _ | q
  ·exact aS rfl (of_decide_eq_false (eq_false_of_ne_true (gT.mp h2 c hc)))
  ·exact ⟨q,rfl⟩
theorem LC(rs:List Rw)(k:Nat)(p:Int):upR rs (k+1) p=if p=0 then [] else match rwAt rs p with
  | some r=>p::upR rs k r.par
  | none=> []:=rfl
theorem rB(ns:List Nd)(k:Nat)(p o:Int):isIn ns (k+1) p o=if p=0 then false else if p=o then true else match ndAt ns p with
  | some n=>isIn ns k n.par o
  | none=>false:=rfl
theorem Inv.climbN(I:Inv hY ns rs t):∀ (k:Nat) (p:Int),MD rs k p->sC ns k p:=by
 intro k
 induction k with
 | zero=>intro p h;exact h
 | succ k ih=>
  intro p h;rcases h with h | ⟨r,hr,h⟩
  ·exact .inl h
  ·obtain x12|n|hn|e:=I.nd_of hr;have e2:r.par=n.par:=aU (·.2.1) e;exact .inr (i12 n hn (ih n.par (e2▸h)))
theorem Inv.inn(I:Inv hY ns rs t):∀ (k:Nat) (p o:Int),MD rs k p->isIn ns k p o=decide (o∈upR rs k p):=by
 intro k
 induction k with
 | zero=>intro p o h;exact (bE cR).symm
 | succ k ih=>
  intro p o h;rw [rB,LC];by_cases hz:p=0
  ·rw [aN hz,aN hz];exact rfl
  ·rw [aJ hz,aJ hz];rcases h with h | ⟨r,hr,h⟩
   ·exact aS h hz
   ·obtain x12|n|hn|e:=I.nd_of hr;have e2:r.par=n.par:=aU (·.2.1) e;rw [hr,hn];dsimp only;by_cases ho:p=o
    ·subst ho;rw [aN rfl];simp
    ·rw [aJ ho,ih n.par o (e2▸h)];have:¬ o=p:=λz=>ho z.symm;simp [this,e2]
theorem Inv.kid_mem(I:Inv hY ns rs t){p:Int}{n:Nd}(hn:ndAt ns p=some n)(x:Str):x∈n.kQ.map (·.1) ↔ x∈(rs.filter λc=>decide (c.par=p)).map (·.name):=by
 constructor
 ·intro h;obtain x11|c|hc:=EH h;obtain x14|r|hr|h1|h2|h3:=(I.kQ p n hn x c).mp hc;exact aL.mpr (i12 r (cN.mpr ⟨hr,by simpa using h1⟩) h2)
 ·intro h;obtain x12|r|hr|h2:=aL.mp h;obtain x02|hr|h1:=cN.mp hr;have:=(I.kQ p n hn x r.pQ).mpr (i14 r hr (by simpa using h1) h2 rfl);exact aL.mpr (i12 _ (CE this) rfl)
theorem Inv.par_nz(I:Inv hY ns rs t){p:Int}{n:Nd}(hn:ndAt ns p=some n):p≠0:=by
 obtain x02|h1|h2:=wA hn;exact h2▸nn0 (I.pl n h1).1
theorem Inv.uniq(I:Inv hY ns rs t){q:Rw}(hr:r∈rs)(hq:q∈rs)(hp:r.par=q.par)(hx:r.name=q.name):r=q:=by
 obtain x11|dep|T:=I.dep;have TR:=I.tree T;rcases (TR.up r hr).2 with hz | ⟨o,ho⟩
 ·have h1:=(I.root.2 r hr).mp hz;have h2:=(I.root.2 q hq).mp (hp▸hz);exact AB I.rnd hr hq (h1.trans h2.symm)
 ·obtain x12|n|hn|u_:=I.nd_of ho;have h1:=(I.kQ r.par n hn r.name r.pQ).mpr (i14 r hr rfl rfl rfl);have h2:=(I.kQ r.par n hn r.name q.pQ).mpr (i14 q hq hp.symm hx.symm rfl);rw [h1] at h2;exact AB I.rnd hr hq (Option.some.inj h2)
theorem Inv.kids_nd(I:Inv hY ns rs t)(p:Int):((rs.filter λc=>decide (c.par=p)).map (·.name)).Nodup:=by
 have nd:rs.Nodup:=List.Pairwise.of_map (·.pQ) (λa b h z=>h (aU _ z)) I.rnd;have nf:(rs.filter λc=>decide (c.par=p)).Nodup:=List.filter_sublist.nodup nd;refine List.pairwise_map.mpr (List.Pairwise.imp_of_mem (λ{a b} ha hb hne hx=>hne ?_) nf);obtain x02|ha1|ha2:=cN.mp ha;obtain x02|hb1|hb2:=cN.mp hb;exact I.uniq ha1 hb1 ((aX ha2).trans (aX hb2).symm) hx
theorem Inv.kid_good(I:Inv hY ns rs t){p:Int}(hp:p≠0):∀ x∈(rs.filter λc=>decide (c.par=p)).map (·.name),x∈lawNames:=by
 intro x hx;obtain x12|r|hr|rfl:=aL.mp hx;obtain x02|hr|h1:=cN.mp hr;have h1:r.par=p:=aX h1;exact (I.names r hr (h1▸hp)).1
theorem Inv.names_eq(I:Inv hY ns rs t){p:Int}{n:Nd}(hn:ndAt ns p=some n)(nk:(n.kQ.map (·.1)).Nodup):BA n=SA jB ((rs.filter λc=>decide (c.par=p)).map (·.name)):=
 HO (λx hx=>I.kid_good (I.par_nz hn) x ((I.kid_mem hn x).mp hx)) nk (I.kids_nd p) (I.kid_mem hn)
theorem Inv.kidsR_names(I:Inv hY ns rs t){p:Int}(hp:p≠0):(yC rs p).map (·.1)=SA jB ((rs.filter λc=>decide (c.par=p)).map (·.name)):=by
 have good:∀ e∈(rs.filter λc=>decide (c.par=p)).map λc=>(c.name,c.pQ),e.1∈lawNames:=λe he=>by
  obtain x12|c|hc|rfl:=aL.mp he;exact I.kid_good hp c.name (aL.mpr (i12 c hc rfl))
 have s1:=IE (lt:=plt) (D:=λe=>e.1∈lawNames) zV MW _ good (rG I.rnd p);have s2:=IE (lt:=jB) (D:=(· ∈lawNames)) (λa b ha hb=>CF a ha b hb) (λa b c ha hb hc=>YG a ha b hb c hc) _ (I.kid_good hp) (I.kids_nd p);refine jL (lt:=λa b=>jB a b=true) CM (λa b c x y=>?_) ?_ s2 λx=>?_
 ·have lt1:a.cps.toList < b.cps.toList:=by simpa [jB] using x
  have lt2:b.cps.toList < c.cps.toList:=by simpa [jB] using y
  exact aF (List.lt_trans lt1 lt2)
 ·have s3:=s1.imp (S:=λa b=>plt a b=true/\a≠b) λ{a b} h=>⟨h,λz=>by
   subst z;unfold plt at h;have h0:jB a.1 a.1=false:=by simpa using CM a.1
   rw [h0] at h;simp at h⟩
  refine List.pairwise_map.mpr (List.Pairwise.imp_of_mem (λ{a b} ha hb hlt=>?_) s3);obtain x02|hlt|hne:=hlt;unfold plt at hlt;simp only [Bool.or_eq_true,Bool.and_eq_true,decide_eq_true_eq] at hlt;rcases hlt with h | ⟨h,_⟩
  ·exact h
  ·exfalso;obtain x14|c|hc|h1|h2|h3:=nC ha;obtain x14|d|hd|h4|h5|h6:=nC hb;have:=I.uniq hc hd (h1.trans h4.symm) (h2.trans (h.trans h5.symm));subst this;exact hne (Prod.ext h (h3.symm.trans h6))
 ·rw [pB];constructor
  ·intro h;obtain x12|e|he|rfl:=aL.mp h;obtain x14|c|hc|h1|h2|h3:=nC he;exact aL.mpr (i12 c (cN.mpr ⟨hc,by simpa using h1⟩) h2)
  ·intro h;obtain x12|c|hc|rfl:=aL.mp h;exact aL.mpr (i12 (c.name,c.pQ) ((pB _ _ _).mpr (aL.mpr (i12 c hc rfl))) rfl)
theorem Inv.kidPlaces(I:Inv hY ns rs t){p:Int}{n:Nd}(hn:ndAt ns p=some n)(nk:(n.kQ.map (·.1)).Nodup):kidPlaces n=(yC rs p).map (·.2):=by
 unfold Internal.kidPlaces;rw [I.names_eq hn nk,<-I.kidsR_names (I.par_nz hn),aP];refine bZ λe he=>?_;obtain x14|c|hc|h1|h2|h3:=nC he;have:=(I.kQ p n hn e.1 e.2).mpr (i14 c hc h1 h2 h3);show (n.kQ.lookup e.1).getD 0=e.2;rw [this];rfl
end
end
section
section
variable {hY:Int} {t:Nat}
theorem HR(h:rs.map keyR=ns.map keyN)(F:Int×Int×Int×Int->Int):(sumF rs λr=>F (keyR r))=sumF ns λn=>F (keyN n):=by
 have:=aU (λl=>(List.map F l).sum) h;simp only [List.map_map] at this;exact this
theorem Inv.share(I:Inv hY ns rs t):∀ (k:Nat) (p:Int) (n:Nd),Deep rs k p->ndAt ns p=some n->ZB rs k p=n.share:=by
 intro k
 induction k with
 | zero=>intro p n hd hn;exact hd.elim
 | succ k ih=>
  intro p n hd hn;obtain x12|r|hr|e:=I.rw_of hn;obtain x02|Ai|hnp:=wA hn;have un:ZB rs (k+1) p=max (r.used+((rs.filter λc=>decide (c.par=p)).map λc=>ZB rs k c.pQ).sum) r.res:=by show (match rwAt rs p with | some r=>_ | none=>_)=_;rw [hr]
  rw [un,XH,(aU (·.2.2.1) e:r.used=n.used),(aU (·.2.2.2) e:r.res=n.res)];have s1:=HR I.key λq=>if q.2.1=p then ZB rs k q.1 else 0;have s2:(sumF rs λa=>if decide (a.par=p)=true then ZB rs k a.pQ else 0)=sumF rs λr=>(λq:Int×Int×Int×Int=>if q.2.1=p then ZB rs k q.1 else 0) (keyR r):=KB λa Z=>by
   by_cases h:a.par=p <;> simp [h]
  rw [s2,s1];have s3:(sumF ns λm=>(λq:Int×Int×Int×Int=>if q.2.1=p then ZB rs k q.1 else 0) (keyN m))=n.bel:=by
   rw [I.sums n Ai,hnp];unfold GB;refine KB λm hm=>?_;have Dg:=I.pl m hm;by_cases h:m.par=p
   ·have h2:m.pQ≠ -1:=nn4 Dg.1;have hm2:=VA I.pnd hm;obtain x12|q|hq|eq:=I.rw_of hm2;obtain x02|Cf|hq2:=HA hq;have hdq:=hd q Cf ((aU (·.2.1) eq:q.par=m.par).trans h);rw [hq2] at hdq;have:=ih m.pQ m hdq hm2;simp [h,h2,this]
   ·simp [h]
  rw [s3];rfl
theorem Inv.below(I:Inv hY ns rs t){p:Int}{n:Nd}(hd:Deep rs (k+1) p)(hn:ndAt ns p=some n):PM rs k p=n.bel:=by
 obtain x02|Ai|hnp:=wA hn;unfold PM;rw [XH,I.sums n Ai,hnp];have s1:=HR I.key λq=>if q.2.1=p then ZB rs k q.1 else 0;have s2:(sumF rs λa=>if decide (a.par=p)=true then ZB rs k a.pQ else 0)=sumF rs λr=>(λq:Int×Int×Int×Int=>if q.2.1=p then ZB rs k q.1 else 0) (keyR r):=KB λa Z=>by
  by_cases h:a.par=p <;> simp [h]
 rw [s2,s1];unfold GB;refine KB λm hm=>?_;have Dg:=I.pl m hm;by_cases h:m.par=p
 ·have h2:m.pQ≠ -1:=nn4 Dg.1;have hm2:=VA I.pnd hm;obtain x12|q|hq|eq:=I.rw_of hm2;obtain x02|Cf|hq2:=HA hq;have hdq:=hd q Cf ((aU (·.2.1) eq:q.par=m.par).trans h);rw [hq2] at hdq;have:=I.share k m.pQ m hdq hm2;simp [h,h2,this]
 ·simp [h]
theorem TreeR.up_dep(T:TreeR rs dep):∀ (k:Nat) (p y:Int),y∈upR rs k p->dep y<=dep p/\(y≠p->dep y < dep p):=by
 intro k
 induction k with
 | zero=>intro p y h;cases h
 | succ k ih=>
  intro p y h;rw [LC] at h;by_cases hz:p=0
  ·rw [aN hz] at h;cases h
  ·rw [aJ hz] at h;cases hr:rwAt rs p with
   | none=>rw [hr] at h;cases h
   | some r=>
    rw [hr] at h;obtain x02|Bb|hr2:=HA hr;have u:=(T.up r Bb).1;rw [hr2] at u;rcases aZ.mp h with h | h
    ·subst h;exact ⟨aY _,λz=>aS rfl z⟩
    ·have:=(ih r.par y h).1;rw [u];exact ⟨cM this,λZ=>Nat.lt_succ_of_le this⟩
theorem TreeR.up_uniq(T:TreeR rs dep):∀ (k:Nat) (p y z:Int),y∈upR rs k p->z∈upR rs k p->dep y=dep z->y=z:=by
 intro k
 induction k with
 | zero=>intro p y z h _ _;cases h
 | succ k ih=>
  intro p y z h h' e;have d1:=T.up_dep (k+1) p y h;have d2:=T.up_dep (k+1) p z h';rw [LC] at h h';by_cases hz:p=0
  ·rw [aN hz] at h;cases h
  ·rw [aJ hz] at h h';cases hr:rwAt rs p with
   | none=>rw [hr] at h;cases h
   | some r=>
    rw [hr] at h h';by_cases hy:y=p
    ·by_cases Bx:z=p
     ·rw [hy,Bx]
     ·have:=d2.2 Bx;rw [<-e,hy] at this;exact aS this (dO _)
    ·by_cases Bx:z=p
     ·have:=d1.2 hy;rw [e,Bx] at this;exact aS this (dO _)
     ·exact ih r.par y z ((aZ.mp h).resolve_left hy) ((aZ.mp h').resolve_left Bx) e
theorem TreeR.up_par(T:TreeR rs dep):∀ (k:Nat) (p y:Int) (r:Rw),dep p<=k->y∈upR rs k p->rwAt rs y=some r->r.par≠0->r.par∈upR rs k p:=by
 intro k
 induction k with
 | zero=>intro p y r _ h _ _;cases h
 | succ k ih=>
  intro p y r hk h hr hz;rw [LC] at h ⊢;by_cases hp:p=0
  ·rw [aN hp] at h;cases h
  ·rw [aJ hp] at h ⊢;cases hq:rwAt rs p with
   | none=>rw [hq] at h;cases h
   | some q=>
    rw [hq] at h;obtain x02|Cf|hq2:=HA hq;have u:=(T.up q Cf).1;rw [hq2] at u;dsimp only at h ⊢;rcases aZ.mp h with h | h
    ·subst h;rw [hq] at hr;cases hr;refine cU _ ?_
     induction k using nCq with
     | zero=>
      rcases (T.up _ Cf).2 with h0 | ⟨o,ho⟩
      ·exact aS h0 hz
      ·obtain x02|ho1|ho2:=HA ho;have:=(T.up o ho1).1;rw [ho2] at this;rw [u,this] at hk;exact aS (eY hk) (dY _)
     | succ k=>
      rcases (T.up _ Cf).2 with h0 | ⟨o,ho⟩
      ·exact aS h0 hz
      ·rw [LC,aJ hz,ho];exact .head _
    ·exact cU _ (ih q.par y r (ls u hk) h hr hz)
theorem TreeR.up_self(T:TreeR rs dep)(hr:rwAt rs r.pQ=some r)(hk:dep r.pQ<=k):r.pQ∈upR rs k r.pQ:=by
 obtain x02|h1|u_:=HA hr;have u:=(T.up r h1).1
 induction k using nCq with
 | zero=>exact aS (u▸hk) (dY _)
 | succ k=>rw [LC,aJ (T.nz r h1),hr];exact .head _
theorem TreeR.all_mem(nd:(rs.map (·.pQ)).Nodup)(T:TreeR rs dep)(K:Nat)(hK:∀ r∈rs,dep r.pQ<=K):∀ (j:Nat) (r:Rw),r∈rs->∀ x∈allR rs j r.pQ,(∃ q∈rs,q.pQ=x)/\r.pQ∈upR rs K x:=by
 intro j
 induction j with
 | zero=>intro r hr x hx;cases hx
 | succ j ih=>
  intro r hr x hx;rw [(rfl:allR rs (j+1) r.pQ=r.pQ::(yC rs r.pQ).flatMap λe=>allR rs j e.2)] at hx;rcases aZ.mp hx with rfl | hx
  ·exact ⟨i12 r hr rfl,T.up_self (yA nd hr) (hK r hr)⟩
  ·obtain x12|e|he|hx:=List.mem_flatMap.mp hx;obtain x14|c|hc|h1|h2|h3:=nC he;rw [<-h3] at hx;obtain x02|Dp|h5:=ih c hc x hx;obtain x12|q|hq|hqx:=Dp;refine ⟨i12 q hq hqx,?_⟩;have:=T.up_par K x c.pQ c (by rw [<-hqx];exact hK q hq) h5 (yA nd hc) (by rw [h1];exact T.nz r hr);rw [h1] at this;exact this
theorem TreeR.all_nd(nd:(rs.map (·.pQ)).Nodup)(T:TreeR rs dep):∀ (j:Nat) (r:Rw),r∈rs->(allR rs j r.pQ).Nodup:=by
 intro j
 induction j with
 | zero=>intro r hr;exact gH
 | succ j ih=>
  intro r hr;have hu:allR rs (j+1) r.pQ=r.pQ::(yC rs r.pQ).flatMap λe=>allR rs j e.2:=rfl;have hK:∀ r∈rs,dep r.pQ<=rs.length:=T.bound;rw [hu,bN];constructor
  ·intro h;obtain x12|e|he|hx:=List.mem_flatMap.mp h;obtain x14|c|hc|h1|h2|h3:=nC he;rw [<-h3] at hx;have h5:=(T.all_mem nd _ hK j c hc _ hx).2;have:=(T.up_dep _ _ _ h5).1;have u:=(T.up c hc).1;rw [h1] at u;exact aS (u▸this) (gC _)
  ·rw [List.Nodup,List.pairwise_flatMap];constructor
   ·intro e he;obtain x14|c|hc|h1|h2|h3:=nC he;rw [<-h3];exact ih c hc
   ·have ndk:(yC rs r.pQ).Nodup:=by
     have h0:∀ (l:List (Str×Int)),l.Nodup->(SA plt l).Nodup:=by
      intro l hl;have:∀ (l:List (Str×Int)) (x:Str×Int),x∉l->l.Nodup->(JE plt x l).Nodup:=by
       intro l x hx hl
       induction l with
       | nil=>rw [OL];simp
       | cons y s ih=>
        rw [bN] at hl;rw [pG];split
        ·rw [bN,zH];refine ⟨λz=>z.elim (λz=>hx (by rw [z];exact .head _)) hl.1,ih (λz=>hx (.tail _ z)) hl.2⟩
        ·rw [bN,bN];exact ⟨hx,hl⟩
      induction l with
      | nil=>exact gH
      | cons y s ih=>
       rw [bN] at hl;rw [HE];exact this _ _ (λz=>hl.1 ((pB _ _ _).mp z)) (ih hl.2)
     exact h0 _ (rG nd r.pQ)
    refine List.Pairwise.imp_of_mem (λ{e f} he hf hne x hx y hy z=>?_) ndk;obtain x14|c|hc|h1|h2|h3:=nC he;obtain x14|d|hd|h4|h5|h6:=nC hf;rw [<-h3] at hx;rw [<-h6] at hy;subst z;have a1:=(T.all_mem nd _ hK j c hc x hx).2;have a2:=(T.all_mem nd _ hK j d hd x hy).2;have u1:=(T.up c hc).1;have u2:=(T.up d hd).1;rw [h1] at u1;rw [h4] at u2;have:=T.up_uniq _ _ _ _ a1 a2 (u1.trans u2.symm);have hcd:c=d:=AB nd hc hd this;subst hcd;exact hne (Prod.ext (h2.symm.trans h5) (h3.symm.trans h6))
theorem TreeR.all_len(nd:(rs.map (·.pQ)).Nodup)(T:TreeR rs dep)(j:Nat)(hr:r∈rs):(allR rs j r.pQ).length<=rs.length:=by
 have:=PQ (T.all_nd nd j r hr) (l':=rs.map (·.pQ)) λx hx=>by
  obtain x02|Do|u_:=T.all_mem nd _ T.bound j r hr x hx;obtain x12|q|hq|e:=Do;exact aL.mpr (i12 q hq e)
 simpa using this
theorem yS{p:Int}{n:Nd}{r:List Int}(h:ndAt ns p=some n):dfs ns (k+1) (p::r)=p::dfs ns k (kidPlaces n++r):=by
 show (match ndAt ns p with | some n=>_ | none=> [])=_;rw [h]
theorem UR(j:Nat)(p:Int):1<=(allR rs (j+1) p).length:=by
 show 1<=(p::_).length;exact cH ..
theorem pN(j:Nat)(l:List (Str×Int)):l.length<=(l.flatMap λe=>allR rs (j+1) e.2).length:=by
 induction l with
 | nil=>exact dA _
 | cons e r ih=>rw [List.flatMap_cons,bA,fN];have:=UR (rs:=rs) j e.2;exact aE (dM ih this) (bV (fK ..))
theorem XM{p:Int}(h:Deep rs k p):∃ j,k=j+1:=by
 induction k using nCq with
 | zero=>exact h.elim
 | succ j=>exact ⟨j,rfl⟩
theorem Inv.dfs_all(I:Inv hY ns rs t)(nk:∀ n∈ns,(n.kQ.map (·.1)).Nodup)(k:Nat):∀ (p:Int) (n:Nd),Deep rs k p->ndAt ns p=some n->∀ (K:Nat) (r:List Int),(allR rs k p).length+r.length<=1000->
  dfs ns ((allR rs k p).length+K) (p::r)=allR rs k p++dfs ns K r/\(qL ns K r->qL ns ((allR rs k p).length+K) (p::r)):=by
 induction k with
 | zero=>exact λZ Z hd=>hd.elim
 | succ k ihk=>
  intro p n hd hn K r hz;have hu:allR rs (k+1) p=p::(yC rs p).flatMap λe=>allR rs k e.2:=rfl;have Bh:=I.kidPlaces hn (nk n (wA hn).1);rw [hu] at hz ⊢;rw [fN] at hz ⊢;have e1:((yC rs p).flatMap λe=>allR rs k e.2).length+1+K=(((yC rs p).flatMap λe=>allR rs k e.2).length+K)+1:=cV _ 1 K;rw [e1,yS hn,Bh];have key:∀ (l:List (Str×Int)),(∀ e∈l,Deep rs k e.2/\∃ m,ndAt ns e.2=some m)->(l.flatMap λe=>allR rs k e.2).length+r.length<=1000->
    dfs ns ((l.flatMap λe=>allR rs k e.2).length+K) (l.map (·.2)++r)=(l.flatMap λe=>allR rs k e.2)++dfs ns K r/\(qL ns K r->qL ns ((l.flatMap λe=>allR rs k e.2).length+K) (l.map (·.2)++r)):=by
   intro l
   induction l with
   | nil=>intro _ _;simp
   | cons e s ih=>
    intro hl Bx;obtain x02|hde|Dn:=hl e (.head _);obtain x11|m|hm:=Dn;obtain x11|j|rfl:=XM hde;have fl:=pN (rs:=rs) j s;rw [List.flatMap_cons,bA] at Bx ⊢;obtain x02|i1|i2:=ih (λf hf=>hl f (.tail _ hf)) (aE (cQ (cH ..) _) Bx);have e2:(allR rs (j+1) e.2).length+(s.flatMap λe=>allR rs (j+1) e.2).length+K=(allR rs (j+1) e.2).length+((s.flatMap λe=>allR rs (j+1) e.2).length+K):=fL ..;rw [e2,bJ,fM];obtain x02|i3|i4:=ihk e.2 m hde hm ((s.flatMap λe=>allR rs (j+1) e.2).length+K) (s.map (·.2)++r) (by rw [bA,aO];exact aE (aE (cY (cQ fl _) _) (bV (fL ..).symm)) Bx);rw [i3,i1,eT];exact ⟨rfl,λh=>i4 (i2 h)⟩
  have hkids:∀ e∈yC rs p,Deep rs k e.2/\∃ m,ndAt ns e.2=some m:=λe he=>by
   obtain x14|c|hc|h1|h2|h3:=nC he;rw [<-h3];obtain x12|m|hm|u_:=I.nd_of (yA I.rnd hc);exact ⟨hd c hc h1,m,hm⟩
  obtain x02|k1|k2:=key (yC rs p) hkids (aE (cQ (cE _) _) hz);rw [k1];refine ⟨rfl,λh=>i13 n hn ?_ ?_⟩
  ·rw [Bh,bA,aO];by_cases he:yC rs p= []
   ·rw [he];exact aE (cQ (dA _) _) hz
   ·obtain x11|e|he:=List.exists_mem_of_ne_nil _ he;obtain x11|j|rfl:=XM (hkids e he).1;have:=pN (rs:=rs) j (yC rs p);exact aE (cQ (cM this) _) hz
  ·rw [Bh];exact k2 h
theorem BO{p:Int}{n:Nd}{acc:List Str}(h:ndAt ns p=some n):QH ns (k+1) p acc=if n.par=0 then acc else match ndAt ns n.par with
  | some m=>QH ns k n.par (XC m p::acc)
  | none=>acc:=by
 show (match ndAt ns p with | some n=>_ | none=>acc)=_;rw [h];try rfl
theorem NJ{c:Int}:∀ {l:List (Str×Int)},(l.map (·.1)).Nodup->(x,c)∈l->l.lookup x=some c:=by
 intro l
 induction l with
 | nil=>intro _ h;exact aS h cR
 | cons e r ih=>
  intro nd h;obtain ⟨y,u⟩:=e;rw [bJ,bN] at nd;rw [bQ];rcases aZ.mp h with h | h
  ·cases h;rw [beq_self_eq_true]
  ·have e:(x==y)=false:=beq_false_of_ne λz=>nd.1 (by rw [<-z];exact aL.mpr (i12 _ h rfl));rw [e];exact ih nd.2 h
theorem Inv.named(I:Inv hY ns rs t){m:Nd}(hr:r∈rs)(hm:ndAt ns r.par=some m):((BA m).find? λx=>decide (m.kQ.lookup x=some r.pQ))=some r.name:=by
 have h1:=(I.kQ r.par m hm r.name r.pQ).mpr (i14 r hr rfl rfl rfl);cases hf:(BA m).find? λx=>decide (m.kQ.lookup x=some r.pQ) with
 | none=>
  have:=gT.mp hf _ ((pB _ _ _).mpr (aL.mpr (i12 _ (CE h1) rfl)):r.name∈BA m);simp [h1] at this
 | some x=>
  have h2:m.kQ.lookup x=some r.pQ:=by simpa using fV hf
  obtain x14|q|hq|q1|q2|q3:=(I.kQ r.par m hm x r.pQ).mp h2;have:q=r:=AB I.rnd hq hr q3;rw [this] at q2;rw [q2]
theorem Inv.namedAll(I:Inv hY ns rs t):PV ns:=λn hn hz=>by
 obtain x11|dep|T:=I.dep;obtain x12|r|hr|e:=I.rw_of (VA I.pnd hn);obtain x02|Bb|hr2:=HA hr;have e1:r.par=n.par:=aU (·.2.1) e;rcases ((I.tree T).up r Bb).2 with h | ⟨q,hq⟩
 ·exact aS (e1▸h) hz
 ·obtain x12|m|hm|u_:=I.nd_of hq;have:=I.named Bb hm;rw [hr2] at this;exact i12 m (e1▸hm) ⟨r.name,this⟩
theorem Inv.closed(I:Inv hY ns rs t)(nk:∀ n∈ns,(n.kQ.map (·.1)).Nodup):Closed ns:=λn hn e he=>by
 obtain x14|r|hr|h1|h2|h3:=(I.kQ n.pQ n (VA I.pnd hn) e.1 e.2).mp (NJ (nk n hn) (show (e.1,e.2)∈n.kQ from he));obtain x12|m|hm|u_:=I.nd_of (yA I.rnd hr);rw [h3] at hm;rw [hm];rfl
theorem CO{p:Int}(hz:p≠0)(hr:rwAt rs p=some r)(hne:upR rs k r.par≠ []):JB rs (k+1) p=JB rs k r.par++ [r.name]:=by
 unfold JB;rw [LC,aJ hz,hr];dsimp only;obtain x21|a|b|hab:=List.exists_cons_of_ne_nil hne;rw [hab,List.dropLast_cons_of_ne_nil (dB _ _),List.reverse_cons,cJ,bJ,List.map_nil,hr];rfl
theorem FT(k:Nat):upR rs k 0= []:=by
 induction k using nCq with
 | zero=>rfl
 | succ k=>rw [LC,aN rfl]
theorem Inv.path(I:Inv hY ns rs t)(T:TreeR rs dep):∀ (k:Nat) (p:Int) (r:Rw),rwAt rs p=some r->dep p<=k->∀ acc,QH ns k p acc=JB rs k p++acc/\VC ns 4 (JB rs k p)=some p/\(∀ x∈JB rs k p,x∈lawNames/\MA x=true)/\(JB rs k p).length<=k:=by
 intro k
 induction k with
 | zero=>
  intro p r hr hk acc;obtain x02|h1|h2:=HA hr;have:=(T.up r h1).1;rw [h2] at this;exact aS (this▸hk) (dY _)
 | succ k ih=>
  intro p r hr hk acc;obtain x02|h1|h2:=HA hr;have u:=T.up r h1;rw [h2] at u;have hz:p≠0:=h2▸T.nz r h1;obtain x12|n|hn|e:=I.nd_of hr;have e1:r.par=n.par:=aU (·.2.1) e;rw [BO hn];by_cases h0:n.par=0
  ·rw [aN h0];have:JB rs (k+1) p= []:=by
    unfold JB;rw [LC,aJ hz,hr];dsimp only;rw [e1,h0,FT];rfl
   rw [this,(h2▸(I.root.2 r h1).mp (e1.trans h0):p=4)];exact i04 rfl rfl (by intro x hx;cases hx) (dA _)
  ·rw [aJ h0];have h0':r.par≠0:=e1▸h0;rcases u.2 with hh | ⟨q,hq⟩
   ·exact aS hh h0'
   ·obtain x12|m|hm|u_:=I.nd_of hq;have hm':ndAt ns n.par=some m:=e1▸hm;rw [hm'];dsimp only;have nm:XC m p=r.name:=by
     have:=I.named h1 hm;rw [h2] at this;unfold XC;rw [this];rfl
    obtain x04|i1|i2|i3|i4:=ih n.par q (e1▸hq) (by rw [<-e1];exact ls u.1 hk) (XC m p::acc);have hne:upR rs k r.par≠ []:=by
     obtain x02|Cf|hq2:=HA hq;have:=T.up_self (k:=k) (r:=q) (by rw [hq2];exact hq) (by rw [hq2];exact ls u.1 hk);rw [hq2] at this;exact List.ne_nil_of_mem this
    rw [CO hz hr hne,i1,nm,e1];refine i04 (by simp) ?_ ?_ ?_
    ·have app:∀ (xs:List Str) (a b:Int) (y:Str),VC ns a xs=some b->VC ns a (xs++ [y])=VC ns b [y]:=by
      intro xs
      induction xs with
      | nil=>intro a b y h;cases h;rfl
      | cons x s ih=>
       intro a b y h;have h':(match (ndAt ns a).bind λn=>n.kQ.lookup x with | some c=>VC ns c s | none=>none)=some b:=h;show (match (ndAt ns a).bind λn=>n.kQ.lookup x with | some c=>VC ns c (s++ [y]) | none=>none)=_;cases hb:(ndAt ns a).bind λn=>n.kQ.lookup x with
       | none=>rw [hb] at h';cases h'
       | some c=>rw [hb] at h';exact ih c b y h'
     rw [app _ _ _ _ i2,NC hm',(I.kQ n.par m hm' r.name p).mpr (i14 r h1 e1 rfl h2)];rfl
    ·intro x hx;rcases bR.mp hx with hx | hx
     ·exact i3 x hx
     ·rw [aH.mp hx];exact I.names r h1 h0'
    ·rw [bA];exact bP i4
end
end
noncomputable abbrev keyK(n:Nd):Int×Int×Int×Int×List (Str×Int):=(n.pQ,n.par,n.used,n.res,n.kQ)
structure Stat(ns:List Nd)(dep:Int->Nat):Prop where
 pnd:(ns.map (·.pQ)).Nodup
 tree:Tree (ns.map λn=>(n.pQ,n.par)) dep
 len:ns.length<=13
 ok:∀ n∈ns,(4<=n.pQ/\n.pQ<=800)/\(0<=n.used/\n.used<=99)/\0<=n.res/\n.res<=99
def Off(ns:List Nd)(ex q δ:Int):Prop:=∀ n∈ns,n.bel+(if n.pQ=q then δ else 0)=GB ns ex n.pQ
theorem FH{β:Type}{ns':List Nd}(h:ns'.map keyN=ns.map keyN)(f:Int×Int×Int×Int->β):(ns'.map λn=>f (keyN n))=ns.map λn=>f (keyN n):=by
 have:=aU (List.map f) h;rw [aP,aP] at this;exact this
theorem oB{β:Type}{ns':List Nd}{f:Nd->β}(h:ns'.map f=ns.map f){n:Nd}(hn:n∈ns'):∃ m∈ns,f n=f m:=by
 have:f n∈ns.map f:=by rw [<-h];exact bI hn
 obtain x12|m|hm|e:=aL.mp this;exact i12 m hm e.symm
theorem IK{ns':List Nd}(h:ns'.map keyK=ns.map keyK):ns'.map keyN=ns.map keyN:=by
 have:=aU (List.map λk:Int×Int×Int×Int×List (Str×Int)=>(k.1,k.2.1,k.2.2.1,k.2.2.2.1)) h;rw [aP,aP] at this;exact this
theorem RL{ns':List Nd}(h:ns'.map keyN=ns.map keyN):(ns'.map (·.pQ))=ns.map (·.pQ):=FH h λk=>k.1
theorem IQ{ns':List Nd}(h:ns'.map keyN=ns.map keyN):(ns'.map λn=>(n.pQ,n.par))=ns.map λn=>(n.pQ,n.par):=FH h λk=>(k.1,k.2.1)
theorem Stat.congr{ns':List Nd}(S:Stat ns dep)(h:ns'.map keyN=ns.map keyN):Stat ns' dep where
 pnd:=by rw [RL h];exact S.pnd
 tree:=by rw [IQ h];exact S.tree
 len:=by
  have:=aU List.length h;simp only [List.length_map] at this;rw [this];exact S.len
 ok:=λn hn=>by
  obtain x12|m|hm|e:=oB h hn;rw [(aU (·.1) e:n.pQ=m.pQ),(aU (·.2.2.1) e:n.used=m.used),(aU (·.2.2.2) e:n.res=m.res)];exact S.ok m hm
theorem BC{β:Type}(f:Nd->β)(nd:(ns.map (·.pQ)).Nodup){n m:Nd}(hn:n∈ns)(hp:m.pQ=n.pQ)(hf:f m=f n):(NA ns m).map f=ns.map f:=by
 unfold NA;rw [aP];refine bZ λa ha=>?_;show f (if a.pQ=m.pQ then m else a)=f a;split
 ·rename_i e;rw [(AB nd ha hn (e.trans hp):a=n)];exact hf
 ·rfl
theorem JK{β:Type}{f:Nd->β}(hf:∀ a b:Nd,f a=f b->a.pQ=b.pQ){ns':List Nd}(h:ns'.map f=ns.map f)(p:Int):(ndAt ns' p).map f=(ndAt ns p).map f:=by
 induction ns' generalizing ns with
 | nil=>induction ns using lCq with
  | nil=>rfl
  | cons=>cases h
 | cons r rs ih=>induction ns using lCq with
  | nil=>cases h
  | cons n ns=>
   have h1:f r=f n:=(List.cons.inj h).1;have hp:=hf _ _ h1;rw [vB,vB];by_cases e:n.pQ=p
   ·rw [aN e,aN (hp.trans e)];exact aU some h1
   ·rw [aJ e,aJ (λz=>e (hp▸z))];exact ih (List.cons.inj h).2
theorem QL{ns':List Nd}(h:ns'.map keyN=ns.map keyN)(p:Int):(ndAt ns' p).map keyN=(ndAt ns p).map keyN:=JK (λZ Z h=>aU (·.1) h) h p
theorem tV{ns':List Nd}(h:ns'.map keyK=ns.map keyK)(p:Int):(ndAt ns' p).map keyK=(ndAt ns p).map keyK:=JK (λZ Z h=>aU (·.1) h) h p
theorem xU{ns':List Nd}(h:ns'.map keyN=ns.map keyN){p:Int}{n:Nd}(hn:ndAt ns p=some n):∃ m,ndAt ns' p=some m/\keyN m=keyN n:=by
 have:=QL h p;rw [hn] at this;cases hm:ndAt ns' p with
 | none=>rw [hm] at this;cases this
 | some m=>rw [hm] at this;exact i12 m rfl (Option.some.inj this)
theorem pH{ns':List Nd}(h:ns'.map keyN=ns.map keyN):∀ (k:Nat) (p:Int),sC ns k p->sC ns' k p:=by
 intro k
 induction k with
 | zero=>intro p c;exact c
 | succ k ih=>
  intro p c;rcases c with c | ⟨n,hn,c⟩
  ·exact .inl c
  ·obtain x12|m|hm|e:=xU h hn;exact .inr (i12 m hm ((aU (·.2.1) e:m.par=n.par)▸ih n.par c))
theorem iO{ns':List Nd}(h:ns'.map keyN=ns.map keyN):∀ (k:Nat) (p o:Int),isIn ns' k p o=isIn ns k p o:=by
 intro k
 induction k with
 | zero=>intro p o;exact rfl
 | succ k ih=>
  intro p o;rw [rB,rB];have e:=QL h p;cases hn:ndAt ns p with
  | none=>
   rw [hn] at e;cases hm:ndAt ns' p with
   | none=>rfl
   | some m=>rw [hm] at e;cases e
  | some n=>
   obtain x12|m|hm|e:=xU h hn;rw [hm];dsimp only;rw [(aU (·.2.1) e:m.par=n.par),ih n.par o]
theorem wK(nd:(ns.map (·.pQ)).Nodup){n m:Nd}(hn:n∈ns)(hp:m.pQ=n.pQ)(hpar:m.par=n.par)(ex p:Int):GB (NA ns m) ex p=GB ns ex p+(if n.par=p/\n.pQ≠ex then m.share - n.share else 0):=by
 unfold GB;rw [GN ns nd hn hp];rw [hpar,hp];split <;> rfl
theorem RJ(nd:(ns.map (·.pQ)).Nodup){n m:Nd}(hn:n∈ns)(hp:m.pQ=n.pQ)(hpar:m.par=n.par)(hne:n.par≠n.pQ){ex:Int}(hex:n.pQ≠ex)(h1:m.bel=GB ns ex n.pQ)
  (h2:∀ a∈ns,a.pQ≠n.pQ->a.bel=GB ns ex a.pQ):Off (NA ns m) ex n.par (m.share - n.share):=λa ha=>by
 rw [wK nd hn hp hpar];rcases nB ha with rfl | ⟨ha,hane⟩
 ·have c1:¬ (n.par=a.pQ/\n.pQ≠ex):=λz=>hne (z.1.trans hp);rw [aJ c1,aJ (λz=>hne (z.symm.trans hp):¬ a.pQ=n.par),hp,h1]
 ·have:=h2 a ha (λz=>hane (z.trans hp.symm));rw [this];by_cases h:a.pQ=n.par
  ·rw [aN h,aN ⟨h.symm,hex⟩]
  ·rw [aJ h,aJ (λz=>h z.1.symm)]
theorem iR(j:Nat):(100:Int)<=100*14 ^ j:=by
 have h:(1:Int)<=14 ^ j:=Int.add_one_le_of_lt (Int.pow_pos (by decide));exact eJ h (by decide)
section
theorem Stat.par(S:Stat ns dep){n:Nd}(hn:n∈ns):dep n.pQ=dep n.par+1/\(n.par=0\/∃ m,ndAt ns n.par=some m)/\dep n.pQ<=13:=by
 obtain x02|h1|h2:=S.tree.up (n.pQ,n.par) (aL.mpr (i12 n hn rfl));have h3:=S.tree.bound (e:=(n.pQ,n.par)) (aL.mpr (i12 n hn rfl));rw [aO] at h3;refine ⟨h1,h2.imp_right λ⟨f,hf,e⟩=>?_,aE h3 S.len⟩;obtain x12|m|hm|rfl:=aL.mp hf;have e:m.pQ=n.par:=e;exact ⟨m,by rw [<-e];exact VA S.pnd hm⟩
theorem Stat.par_le(S:Stat ns dep){n:Nd}(hn:n∈ns):0<=n.par/\n.par<=800:=by
 rcases (S.par hn).2.1 with h | ⟨m,hm⟩
 ·rw [h];decide
 ·obtain x02|h1|h2:=wA hm;have:=(S.ok m h1).1;exact h2▸⟨bD (by decide) this.1,this.2⟩
theorem Stat.share_nn(S:Stat ns dep){n:Nd}(hn:n∈ns):0<=n.share:=by
 have:=(S.ok n hn).2.2.1;exact bD this (Int.le_max_right _ _)
theorem Stat.ch_nn(S:Stat ns dep)(ex p:Int):0<=GB ns ex p:=DM λc hc=>by
 have:=S.share_nn hc;split <;> first | exact this | exact eK _
theorem Stat.shares(S:Stat ns dep){ex q δ:Int}(O:Off ns ex q δ):∀ (j:Nat) (n:Nd),n∈ns->dep q < dep n.pQ->14<=dep n.pQ+j->n.share<=100*14 ^ j:=by
 intro j
 induction j with
 | zero=>intro n hn hd hj;exact aS (aE hj (S.par hn).2.2) (by decide)
 | succ j ih=>
  intro n hn hd hj;have hq:n.pQ≠q:=λz=>by rw [z] at hd;exact dO _ hd
  have hb:=O n hn;rw [aJ hq] at hb;have hs:GB ns ex n.pQ<=ns.length*(100*14 ^ j):=GR λc hc=>by
   have p0:=iR j;by_cases h:c.par=n.pQ/\c.pQ≠ex
   ·rw [aN h];have u:=(S.par hc).1;rw [h.1] at u;exact ih c hc (u▸bW hd) (by rw [u];exact n16 hj)
   ·rw [aJ h];exact bD (by decide) p0
  have hl:(ns.length:Int)*(100*14 ^ j)<=13*(100*14 ^ j):=Int.mul_le_mul_of_nonneg_right (cO.mpr S.len) (bD (by decide) (iR j));have p0:=iR j;have hok:=S.ok n hn;have e:(100:Int)*14 ^ (j+1)=14*(100*14 ^ j):=by rw [Int.pow_succ,<-Int.mul_assoc,Int.mul_comm]
  rw [e];exact sh14 hb (bD hs hl) p0 hok.2.1.2 hok.2.2.2
theorem Stat.ch_le(S:Stat ns dep){ex q δ:Int}(O:Off ns ex q δ):GB ns ex q<=13*(100*14 ^ 13):=by
 have hs:GB ns ex q<=ns.length*(100*14 ^ 13):=GR λc hc=>by
  have p0:=iR 13;by_cases h:c.par=q/\c.pQ≠ex
  ·rw [aN h];have u:=(S.par hc).1;rw [h.1] at u;exact S.shares O 13 c hc (u▸dR _) (by rw [u,fL];exact cH ..)
  ·rw [aJ h];exact bD (by decide) p0
 have hl:(ns.length:Int)*(100*14 ^ 13)<=13*(100*14 ^ 13):=Int.mul_le_mul_of_nonneg_right (cO.mpr S.len) (bD (by decide) (iR 13));exact bD hs hl
theorem Stat.fit(S:Stat ns dep){n m:Nd}(hn:n∈ns)(hp:m.pQ=n.pQ)(hpar:0<=m.par/\m.par<=800)(hu:0<=m.used/\m.used<=99)(hr:0<=m.res/\m.res<=99)(hb:0<=m.bel/\m.bel<=13*(100*14 ^ 13)):m.Fit:=by
 have:=(S.ok n hn).1;have big:(13:Int)*(100*14 ^ 13) < 256 ^ 8:=by decide+kernel
 have big2:(1000:Int) < 256 ^ 8:=by decide+kernel
 rw [<-hp] at this;have f {a:Int} (h:0<=a) (k:a<=800):0<=a/\a < 256 ^ 8:=⟨h,fB (cD k (by decide)) big2⟩;have z:=f (eK 0) (by decide);exact mc (f hpar.1 hpar.2) (mc z (mc (f (Int.sub_nonneg_of_le (bD (by decide) this.1)) (bD (Int.sub_le_self _ (by decide)) this.2)) (mc (f (Int.sub_nonneg_of_le (bD (by decide) this.1)) (bD (Int.sub_le_self _ (by decide)) this.2)) (mc z (mc (f hu.1 (bD hu.2 (by decide))) (mc ⟨hb.1,cD hb.2 big⟩ (mc z (mc (f hr.1 (bD hr.2 (by decide))) (mc z mn)))))))))
theorem NP{q u b:Int}(h:¬ (q≠0/\(u≠0\/b≠0))):tA k ns q u b=ns/\CuOk k ns q u b:=by
 induction k using nCq with
 | zero=>exact ⟨rfl,h⟩
 | succ k=>exact ⟨aJ h,λz=>aS z h⟩
theorem rW{q u b:Int}{n:Nd}(h:q≠0/\(u≠0\/b≠0))(hn:ndAt ns q=some n):tA (k+1) ns q u b=tA k (NA ns (n.add u b)) n.par 0 ((n.add u b).share - n.share):=by
 show (if q≠0/\(u≠0\/b≠0) then match ndAt ns q with | some n=>_ | none=>ns else ns)=_;rw [aN h,hn]
end
theorem wS{ex:Int}:∀ (k:Nat) (ns:List Nd) (q δ:Int),Stat ns dep->Off ns ex q δ->sC ns k q->isIn ns k q ex=false->
  CuOk k ns q 0 δ/\(∀ n∈tA k ns q 0 δ,n.bel=GB (tA k ns q 0 δ) ex n.pQ)/\(tA k ns q 0 δ).map keyK=ns.map keyK/\(ex≠0->ndAt (tA k ns q 0 δ) ex=ndAt ns ex):=by
 have stop:∀ (k:Nat) (ns:List Nd) (q δ:Int),Stat ns dep->Off ns ex q δ->¬ (q≠0/\((0:Int)≠0\/δ≠0))->CuOk k ns q 0 δ/\(∀ n∈tA k ns q 0 δ,n.bel=GB (tA k ns q 0 δ) ex n.pQ)/\(tA k ns q 0 δ).map keyK=ns.map keyK/\(ex≠0->ndAt (tA k ns q 0 δ) ex=ndAt ns ex):=by
  intro k ns q δ S O h;obtain x02|h1|h2:=NP (k:=k) (ns:=ns) h;rw [h1];refine i04 h2 (λn hn=>?_) rfl λZ=>rfl;have:=O n hn;by_cases hq:n.pQ=q
  ·have hq0:q≠0:=hq▸nn0 (S.ok n hn).1.1;have hd:δ=0:=by
    by_cases hd:δ=0
    ·exact hd
    ·exact aS ⟨hq0,.inr hd⟩ h
   rw [hd] at this;simpa using this
  ·rw [aJ hq] at this;exact (dZ _).symm.trans this
 intro k
 induction k with
 | zero=>
  intro ns q δ S O c _;exact stop 0 ns q δ S O λh=>h.1 c
 | succ k ih=>
  intro ns q δ S O c hx;by_cases h:q≠0/\((0:Int)≠0\/δ≠0)
  ·rcases c with c | ⟨n,hn,c⟩
   ·exact aS c h.1
   ·obtain x02|Ai|hnp:=wA hn;rw [rB,aJ h.1,hn] at hx;have hqe:q≠ex:=λz=>by rw [aN z] at hx;cases hx
    rw [aJ hqe] at hx;have hO:=O n Ai;rw [aN hnp] at hO;have kN:(NA ns (n.add 0 δ)).map keyN=ns.map keyN:=BC keyN S.pnd Ai rfl (by unfold Nd.add keyN;simp);have kK:(NA ns (n.add 0 δ)).map keyK=ns.map keyK:=BC keyK S.pnd Ai rfl (by unfold Nd.add keyK;simp);have Az:=(S.par Ai).1;have O2:Off (NA ns (n.add 0 δ)) ex n.par ((n.add 0 δ).share - n.share):=RJ (m:=n.add 0 δ) S.pnd Ai rfl rfl (λz=>by rw [z] at Az;exact cK _ Az.symm) (by rw [hnp];exact hqe) hO (λa ha hane=>by
     have:=O a ha;rw [aJ (λz=>hane (z.trans hnp.symm))] at this;exact (dZ _).symm.trans this)
    have c2:=pH kN k n.par c;have Cg:isIn (NA ns (n.add 0 δ)) k n.par ex=false:=by rw [iO kN];exact hx
    obtain x04|i1|i2|i3|i4:=ih (NA ns (n.add 0 δ)) n.par _ (S.congr kN) O2 c2 Cg;rw [rW h hn];refine i04 (λZ=>i13 n hn ?_ i1) i2 (i3.trans kK) λh0=>?_
    ·have Ar:=S.ch_le O;have hnn:=S.ch_nn ex q;have hok:=S.ok n Ai;rw [hnp] at hO;refine S.fit (m:=n.add 0 δ) Ai rfl (show 0<=n.par/\n.par<=800 from S.par_le Ai) ?_ hok.2.2 ?_
     ·show 0<=n.used+0/\n.used+0<=99;rw [dZ];exact hok.2.1
     ·show 0<=n.bel+δ/\n.bel+δ<=_;rw [hO];exact ⟨hnn,Ar⟩
    ·rw [i4 h0,DB];have:¬ ex=(n.add 0 δ).pQ:=λz=>hqe (hnp.symm.trans z.symm);rw [aJ this]
  ·exact stop (k+1) ns q δ S O h
section
section
variable {hY:Int} {t:Nat}
theorem Inv.stat(I:Inv hY ns rs t)(ht:t<=12)(T:Tree (ns.map λn=>(n.pQ,n.par)) dep):Stat ns dep where
 pnd:=I.pnd
 tree:=T
 len:=aE I.len.1 (bP ht)
 ok:=λn hn=>by
  have h1:=I.pl n hn;have h2:=I.bnd n hn;exact ⟨⟨h1.1,pl8 h1.2 I.len.2.1 ht⟩,h2⟩
theorem wV(h:∀ m∈ns,m.par≠ -1):∀ (k:Nat) (p:Int),p≠ -1->isIn ns k p (-1)=false:=by
 intro k
 induction k with
 | zero=>intro p _;exact rfl
 | succ k ih=>
  intro p hp;rw [rB];by_cases hz:p=0
  ·rw [aN hz]
  ·rw [aJ hz,aJ hp];cases hn:ndAt ns p with
   | none=>rfl
   | some n=>exact ih n.par (h n (wA hn).1)
theorem Stat.upd(S:Stat ns dep){n m:Nd}(hn:n∈ns)(hp:m.pQ=n.pQ)(hpar:m.par=n.par)(hu:0<=m.used/\m.used<=99)(hr:0<=m.res/\m.res<=99):Stat (NA ns m) dep where
 pnd:=by rw [PC];exact S.pnd
 tree:=by rw [BC (λn=>(n.pQ,n.par)) S.pnd hn hp (by rw [hp,hpar])];exact S.tree
 len:=by unfold NA;rw [aO];exact S.len
 ok:=λa ha=>by
  rcases nB ha with rfl | ⟨ha,_⟩
  ·rw [hp];exact i03 (S.ok n hn).1 hu hr
  ·exact S.ok a ha
theorem ZH(ns:List Nd)(m:Nd):(NA ns m).map keyN=(ns.map keyN).map λk=>if k.1=m.pQ then keyN m else k:=by
 unfold NA;rw [aP,aP];refine bZ λa Z=>?_;show keyN (if a.pQ=m.pQ then m else a)=if a.pQ=m.pQ then keyN m else keyN a;split <;> rfl
theorem iI(rs:List Rw)(m:Rw):(MC rs m).map keyR=(rs.map keyR).map λk=>if k.1=m.pQ then keyR m else k:=by
 unfold MC;rw [aP,aP];refine bZ λa Z=>?_;show keyR (if a.pQ=m.pQ then m else a)=if a.pQ=m.pQ then keyR m else keyR a;split <;> rfl
theorem iU{ns':List Nd}(h:(ns'.map λn=>(n.pQ,n.par))=ns.map λn=>(n.pQ,n.par)):∀ (k:Nat) (p:Int),sC ns k p->sC ns' k p:=by
 intro k
 induction k with
 | zero=>intro p c;exact c
 | succ k ih=>
  intro p c;rcases c with c | ⟨n,hn,c⟩
  ·exact .inl c
  ·have e:=JK (f:=λn=>(n.pQ,n.par)) (λa b h=>aU (·.1) h) h p;rw [hn] at e;cases hm:ndAt ns' p with
   | none=>rw [hm] at e;cases e
   | some m=>
    rw [hm] at e;exact .inr (i12 m hm ((aU (·.2) (Option.some.inj e):m.par=n.par)▸ih n.par c))
theorem Inv.same(I:Inv hY ns rs t){ns':List Nd}{rs':List Rw}{t':Nat}(ht:t<=t')(hk:(ns'.map λn=>(n.pQ,n.par,n.kQ))=ns.map λn=>(n.pQ,n.par,n.kQ))(hr:(rs'.map λr=>(r.pQ,r.par,r.name))=rs.map λr=>(r.pQ,r.par,r.name))
  (key:rs'.map keyR=ns'.map keyN) (sums:∀ n∈ns',n.bel=GB ns' (-1) n.pQ) (bnd:∀ n∈ns',(0<=n.used/\n.used<=99)/\0<=n.res/\n.res<=99):Inv hY ns' rs' t':=by
 have mk:∀ {r:Rw},r∈rs'->∃ q∈rs,q.pQ=r.pQ/\q.par=r.par/\q.name=r.name:=λ{r} h=>by
  have:(r.pQ,r.par,r.name)∈rs.map λr=>(r.pQ,r.par,r.name):=by rw [<-hr];exact aL.mpr (i12 r h rfl)
  obtain x12|q|hq|e:=aL.mp this;simp only [Prod.mk.injEq] at e;exact i14 q hq e.1 e.2.1 e.2.2
 have mk':∀ {r:Rw},r∈rs->∃ q∈rs',q.pQ=r.pQ/\q.par=r.par/\q.name=r.name:=λ{r} h=>by
  have:(r.pQ,r.par,r.name)∈rs'.map λr=>(r.pQ,r.par,r.name):=by rw [hr];exact aL.mpr (i12 r h rfl)
  obtain x12|q|hq|e:=aL.mp this;simp only [Prod.mk.injEq] at e;exact i14 q hq e.1 e.2.1 e.2.2
 have Dg:ns'.map (·.pQ)=ns.map (·.pQ):=by
  have:=aU (List.map λk:Int×Int×List (Str×Int)=>k.1) hk;rw [aP,aP] at this;exact this
 have Cl:(ns'.map λn=>(n.pQ,n.par))=ns.map λn=>(n.pQ,n.par):=by
  have:=aU (List.map λk:Int×Int×List (Str×Int)=>(k.1,k.2.1)) hk;rw [aP,aP] at this;exact this
 refine {key:=key,pnd:=by rw [Dg];exact I.pnd,pl:=λn hn=>?_,kQ:=λp n hn x c=>?_,names:=λr h hz=>?_,root:=⟨?_,λr h=>?_⟩,dep:=by rw [Cl];exact I.dep,sums:=sums,bnd:=bnd,len:=?_}
 ·have:n.pQ∈ns.map (·.pQ):=by rw [<-Dg];exact bI hn
  obtain x12|m|hm|e:=aL.mp this;rw [<-e];exact I.pl m hm
 ·have e:=JK (f:=λn=>(n.pQ,n.par,n.kQ)) (λa b h=>aU (·.1) h) hk p;rw [hn] at e;cases hm:ndAt ns p with
  | none=>rw [hm] at e;cases e
  | some m=>
   rw [hm] at e;rw [(aU (·.2.2) (Option.some.inj e):n.kQ=m.kQ),I.kQ p m hm x c];constructor
   ·intro ii;obtain x14|r|h|h1|h2|h3:=ii;obtain x14|q|hq|q1|q2|q3:=mk' h;exact i14 q hq (q2.trans h1) (q3.trans h2) (q1.trans h3)
   ·intro ii;obtain x14|r|h|h1|h2|h3:=ii;obtain x14|q|hq|q1|q2|q3:=mk h;exact i14 q hq (q2.trans h1) (q3.trans h2) (q1.trans h3)
 ·obtain x14|q|hq|q1|q2|q3:=mk h;rw [<-q3];exact I.names q hq (q2▸hz)
 ·obtain x12|r|h|e:=I.root.1;obtain x13|q|hq|q1|u_:=mk' h;exact i12 q hq (q1.trans e)
 ·obtain x14|q|hq|q1|q2|q3:=mk h;rw [<-q1,<-q2];exact I.root.2 q hq
 ·have:=aU List.length Dg;simp only [List.length_map] at this;rw [this];exact len3 I.len (by assumption)
theorem rU{ns':List Nd}(h:ns'.map keyK=ns.map keyK):(ns'.map λn=>(n.pQ,n.par,n.kQ))=ns.map λn=>(n.pQ,n.par,n.kQ):=by
 have:=aU (List.map λk:Int×Int×Int×Int×List (Str×Int)=>(k.1,k.2.1,k.2.2.2.2)) h;rw [aP,aP] at this;exact this
theorem Inv.parNeg(I:Inv hY ns rs t)(S:Stat ns dep):∀ m∈ns,m.par≠ -1:=λm hm=>nn1 (S.par_le hm).1
theorem GT(nd:(ns.map (·.pQ)).Nodup){n:Nd}(hn:n∈ns):NA ns n=ns:=by
 have:=BC id nd hn (m:=n) rfl rfl;simpa using this
theorem Inv.used(I:Inv hY ns rs t)(ht:t<=11)(hr:rwAt rs r.pQ=some r){many:Int}(hm:0<=many/\many<=99)(hk:sC ns k r.pQ):
  CuOk k ns r.pQ (many - r.used) 0/\Inv hY (tA k ns r.pQ (many - r.used) 0) (MC rs {r with used:=many}) (t+1):=by
 obtain x11|dep|T:=I.dep;have S:=I.stat (cM ht) T;obtain x12|n|hn|e:=I.nd_of hr;obtain x02|Ai|hnp:=wA hn;obtain x02|Bg|u_:=HA hr;have e1:r.used=n.used:=aU (·.2.2.1) e;have xZ:=S.ok n Ai;have Az:=(S.par Ai).1;have Cr:n.used+(many - r.used)=many:=by rw [e1];exact asub
 have Cs:0<=n.used+(many - r.used)/\n.used+(many - r.used)<=99:=by rw [Cr];exact hm
 have fin:∀ ns',ns'.map keyK=(NA ns (n.add (many - r.used) 0)).map keyK->(∀ a∈ns',a.bel=GB ns' (-1) a.pQ)->Inv hY ns' (MC rs {r with used:=many}) (t+1):=λns' hk1 hs=>by
  have Df:=IK hk1;refine I.same (cE t) ((rU hk1).trans (BC _ S.pnd Ai rfl rfl)) (DD _ I.rnd Bg rfl rfl) ?_ hs λa ha=>?_
  ·rw [Df,ZH,iI,I.key];have:keyR {r with used:=many}=keyN (n.add (many - r.used) 0):=by
    unfold keyR keyN Nd.add;simp only [Prod.mk.injEq];exact i04 hnp.symm (aU (·.2.1) e:r.par=n.par) Cr.symm (aU (·.2.2.2) e:r.res=n.res)
   rw [this];have:(n.add (many - r.used) 0).pQ=({r with used:=many}:Rw).pQ:=hnp;rw [this]
  ·obtain x12|b|hb|eb:=oB Df ha;rw [(aU (·.2.2.1) eb:a.used=b.used),(aU (·.2.2.2) eb:a.res=b.res)];rcases nB hb with rfl | ⟨hb,_⟩
   ·show (0<=n.used+(many - r.used)/\n.used+(many - r.used)<=99)/\0<=n.res/\n.res<=99;exact ⟨Cs,xZ.2.2⟩
   ·exact I.bnd b hb
 by_cases hu:many - r.used=0
 ·obtain x02|c1|c2:=NP (k:=k) (ns:=ns) (q:=r.pQ) (u:=many - r.used) (b:=0) (by rw [hu];exact λh=>nomatch h);rw [c1];refine ⟨c2,fin ns ?_ I.sums⟩;have:n.add (many - r.used) 0=n:=by rw [hu];unfold Nd.add;simp
  rw [this,GT S.pnd Ai]
 ·have hz:r.pQ≠0:=hnp▸nn0 xZ.1.1
  induction k using nCq with
  | zero=>exact aS hk hz
  | succ k=>
   rcases hk with hk | ⟨n',hn',hk⟩
   ·exact aS hk hz
   ·rw [hn] at hn';cases hn';have hsum:=I.sums n Ai;have S2:Stat (NA ns (n.add (many - r.used) 0)) dep:=S.upd Ai rfl rfl Cs xZ.2.2;have O2:Off (NA ns (n.add (many - r.used) 0)) (-1) n.par ((n.add (many - r.used) 0).share - n.share):=RJ (m:=n.add (many - r.used) 0) S.pnd Ai rfl rfl (λz=>by rw [z] at Az;exact cK _ Az.symm) (nn4 xZ.1.1) ((dZ _).trans hsum) λa ha Z=>I.sums a ha;have Cl:(NA ns (n.add (many - r.used) 0)).map (λn=>(n.pQ,n.par))=ns.map λn=>(n.pQ,n.par):=BC _ S.pnd Ai rfl rfl;obtain x04|i1|i2|i3|u_:=wS (dep:=dep) (ex:= -1) k _ n.par _ S2 O2 (iU Cl k n.par hk:sC (NA ns (n.add (many - r.used) 0)) k n.par) (wV (λm hm=>by
     rcases nB hm with rfl | ⟨hm,_⟩
     ·exact I.parNeg S n Ai
     ·exact I.parNeg S m hm) k n.par (I.parNeg S n Ai))
    rw [rW (⟨hz,.inl hu⟩:r.pQ≠0/\(many - r.used≠0\/(0:Int)≠0)) hn];refine ⟨λZ=>i13 n hn ?_ i1,fin _ i3 i2⟩;have hnn:=S.ch_nn (-1) n.pQ;have Ar:=S.ch_le (ex:= -1) (q:=n.pQ) (δ:=0) (λa ha=>by rw [ite_self];exact (dZ _).trans (I.sums a ha));refine S.fit (m:=n.add (many - r.used) 0) Ai rfl (show 0<=n.par/\n.par<=800 from S.par_le Ai) Cs xZ.2.2 ?_;show 0<=n.bel+0/\n.bel+0<=_;rw [dZ,hsum];exact ⟨hnn,Ar⟩
end
end
section
section
variable {hY:Int} {t:Nat}
theorem Inv.reserved(I:Inv hY ns rs t)(ht:t<=11)(hr:rwAt rs r.pQ=some r){n:Nd}(hn:ndAt ns r.pQ=some n){many:Int}(hm:0<=many/\many<=99)(hk:sC ns k n.par):
  ({n with res:=many}:Nd).Fit/\CuOk k (NA ns {n with res:=many}) n.par 0 (({n with res:=many}:Nd).share - n.share)/\
  Inv hY (tA k (NA ns {n with res:=many}) n.par 0 (({n with res:=many}:Nd).share - n.share)) (MC rs {r with res:=many}) (t+1):=by
 obtain x11|dep|T:=I.dep;have S:=I.stat (cM ht) T;obtain x12|n'|hn'|e:=I.nd_of hr;rw [hn] at hn';cases hn';obtain x02|Ai|hnp:=wA hn;obtain x02|Bg|u_:=HA hr;have xZ:=S.ok n Ai;have Az:=(S.par Ai).1;have hsum:=I.sums n Ai;have S2:Stat (NA ns {n with res:=many}) dep:=S.upd Ai rfl rfl xZ.2.1 hm;have O2:Off (NA ns {n with res:=many}) (-1) n.par (({n with res:=many}:Nd).share - n.share):=RJ (m:={n with res:=many}) S.pnd Ai rfl rfl (λz=>by rw [z] at Az;exact cK _ Az.symm) (nn4 xZ.1.1) hsum λa ha Z=>I.sums a ha;have Cl:(NA ns {n with res:=many}).map (λn=>(n.pQ,n.par))=ns.map λn=>(n.pQ,n.par):=BC _ S.pnd Ai rfl rfl;obtain x04|i1|i2|i3|u_:=wS (dep:=dep) (ex:= -1) k _ n.par _ S2 O2 (iU Cl k n.par hk) (wV (λm hm=>by
  rcases nB hm with rfl | ⟨hm,_⟩
  ·exact I.parNeg S n Ai
  ·exact I.parNeg S m hm) k n.par (I.parNeg S n Ai))
 have Df:=IK i3;refine i03 ?_ i1 (I.same (cE t) ((rU i3).trans (BC _ S.pnd Ai rfl rfl)) (DD _ I.rnd Bg rfl rfl) ?_ i2 λa ha=>?_)
 ·have hnn:=S.ch_nn (-1) n.pQ;have Ar:=S.ch_le (ex:= -1) (q:=n.pQ) (δ:=0) (λa ha=>by rw [ite_self];exact (dZ _).trans (I.sums a ha));refine S.fit (m:={n with res:=many}) Ai rfl (show 0<=n.par/\n.par<=800 from S.par_le Ai) xZ.2.1 hm ?_;show 0<=n.bel/\n.bel<=_;rw [hsum];exact ⟨hnn,Ar⟩
 ·rw [Df,ZH,iI,I.key];have e3:keyR {r with res:=many}=keyN {n with res:=many}:=by
   unfold keyR keyN;rw [(aU (·.2.1) e:r.par=n.par),(aU (·.2.2.1) e:r.used=n.used)];show (r.pQ,n.par,n.used,many)=(n.pQ,n.par,n.used,many);rw [hnp]
  rw [e3];have:({n with res:=many}:Nd).pQ=({r with res:=many}:Rw).pQ:=hnp;rw [this]
 ·obtain x12|b|hb|eb:=oB Df ha;rw [(aU (·.2.2.1) eb:a.used=b.used),(aU (·.2.2.2) eb:a.res=b.res)];rcases nB hb with rfl | ⟨hb,_⟩
  ·exact ⟨xZ.2.1,hm⟩
  ·exact I.bnd b hb
theorem MI{y:Str}{c:Int}:∀ {l:List (Str×Int)},(l++ [(x,c)]).lookup y=match l.lookup y with
  | some d=>some d
  | none=>if y=x then some c else none:=by
 intro l
 induction l with
 | nil=>
  rw [List.nil_append,bQ];by_cases h:y=x
  ·subst h;simp
  ·have:(y==x)=false:=by simpa using h
   rw [this];simp [h]
 | cons z0 r ih=>
  obtain ⟨z,u⟩:=z0;rw [fM,bQ,bQ];by_cases h:y=z
  ·subst h;simp
  ·have:(y==z)=false:=by simpa using h
   rw [this];exact ih
theorem WE{y:Str}:∀ {l:List (Str×Int)},(l.map (·.1)).Nodup->(uC x l).lookup y=if y=x then none else l.lookup y:=by
 intro l
 induction l with
 | nil=>intro _;show none=_;split <;> rfl
 | cons z0 r ih=>
  intro nd;obtain ⟨z,u⟩:=z0;rw [bJ,bN] at nd;rw [GL];by_cases h:z=x
  ·rw [aN h];by_cases hy:y=x
   ·rw [aN hy];cases hl:r.lookup y with
    | none=>rfl
    | some c=>
     exact aS (aL.mpr (i12 _ (CE hl) rfl)) (by
      have:z=y:=h.trans hy.symm;rw [<-this];exact nd.1)
   ·rw [aJ hy,bQ];have:(y==z)=false:=by rw [h];simpa using hy
    rw [this]
  ·rw [aJ h,bQ,bQ,ih nd.2];by_cases hy:y=z
   ·have e:(y==z)=true:=by simpa using hy
    have:y≠x:=λq=>h (hy.symm.trans q);rw [e];simp [this]
   ·have:(y==z)=false:=by simpa using hy
    rw [this]
theorem PN{ex p:Int}(h:∀ c∈ns,c.par≠p):GB ns ex p=0:=by
 unfold GB;have:(sumF ns λc=>if c.par=p/\c.pQ≠ex then c.share else 0)=sumF ns λZ=>0:=KB λc hc=>aJ λz=>h c hc z.1;rw [this];clear this h
 induction ns with
 | nil=>rfl
 | cons a r ih=>rw [xB,ih];rfl
theorem Inv.added(I:Inv hY ns rs t)(ht:t<=11){n:Nd}(hp:ndAt ns n.pQ=some n)(hx:x∈lawNames)(ok:MA x=true)(free:n.kQ.lookup x=none)(z a:Nat):
  Inv (hY+1+1+1) (XD ns hY n x z) (rs++ [⟨hY+1+1+1,n.pQ,x,0,0,a⟩]) (t+1):=by
 obtain x11|dep|T:=I.dep;have S:=I.stat (cM ht) T;obtain x02|Ai|u_:=wA hp;have Dg:=I.pl n Ai;have hlen:=I.len;have qZ:∀ m∈ns,m.pQ≠hY+1+1+1:=λm hm z=>lt3 (I.pl m hm).2 z.symm;have hpar:∀ m∈ns,m.par≠hY+1+1+1:=λm hm z=>by
  rcases (S.par hm).2.1 with h | ⟨q,hq⟩
  ·exact lt3 (bD (by decide) hlen.2.2) (z.symm.trans h)
  ·obtain x02|h1|h2:=wA hq;exact qZ q h1 (h2.trans z)
 have nd2:((ns++ [SD hY n.pQ z]).map (·.pQ)).Nodup:=by
  rw [cJ];refine dJ.mpr (i03 I.pnd (by simp) ?_);intro u hu v hv e;obtain x12|m|hm|rfl:=aL.mp hu;simp only [List.map_cons,List.map_nil,List.mem_singleton] at hv;exact qZ m hm (e.trans hv)
 have hn2:n∈ns++ [SD hY n.pQ z]:=cA _ Ai;have Ae:(XD ns hY n x z).map keyN=ns.map keyN++ [(hY+1+1+1,n.pQ,0,0)]:=by
  unfold XD;rw [BC keyN nd2 hn2 (m:={n with kQ:=n.kQ++ [(x,hY+1+1+1)]}) rfl rfl,cJ];rfl
 have hch:∀ p,GB (XD ns hY n x z) (-1) p=GB ns (-1) p:=λp=>by
  unfold XD;rw [wK nd2 hn2 (m:={n with kQ:=n.kQ++ [(x,hY+1+1+1)]}) rfl rfl];have e0:({n with kQ:=n.kQ++ [(x,hY+1+1+1)]}:Nd).share - n.share=0:=Int.sub_self n.share;rw [e0];unfold GB;rw [BT,xB,jH];have e1:(SD hY n.pQ z).share=0:=rfl;rw [e1];split <;> split <;> exact (dZ _).trans (dZ _)
 have nkid:∀ p m,ndAt ns p=some m->p≠hY+1+1+1:=λp m h e=>by
  obtain x02|h1|h2:=wA h;exact qZ m h1 (h2.trans e)
 have rpar:∀ r∈rs,r.par≠hY+1+1+1:=λr hr e=>by
  obtain x12|m|hm|em:=I.nd_of (yA I.rnd hr);exact hpar m (wA hm).1 ((aU (·.2.1) em:r.par=m.par).symm.trans e)
 refine {key:=?_,pnd:=?_,pl:=λm hm=>?_,kQ:=λp m hm y c=>?_,names:=λr hr hz=>?_,root:=⟨?_,λr hr=>?_⟩,dep:=⟨λq=>if q=hY+1+1+1 then dep n.pQ+1 else dep q,?_⟩,sums:=λm hm=>?_,bnd:=λm hm=>?_,len:=?_}
 ·rw [Ae,cJ,I.key];rfl
 ·unfold XD;rw [PC];exact nd2
 ·rcases nB hm with rfl | ⟨hm,_⟩
  ·exact ⟨Dg.1,up3 Dg.2⟩
  ·rcases bR.mp hm with hm | hm
   ·exact ⟨(I.pl m hm).1,up3 (I.pl m hm).2⟩
   ·rw [aH.mp hm];exact ⟨up3 hlen.2.2,eK _⟩
 ·unfold XD at hm;rw [DB,ZG] at hm;by_cases h1:p=n.pQ
  ·have h1':p=({n with kQ:=n.kQ++ [(x,hY+1+1+1)]}:Nd).pQ:=h1;rw [aN h1',h1,hp] at hm;cases hm;show (n.kQ++ [(x,hY+1+1+1)]).lookup y=some c ↔ _;rw [MI];constructor
   ·intro h;cases hl:n.kQ.lookup y with
    | some d=>
     rw [hl] at h;obtain x14|r|hr|h2|h3|h4:=(I.kQ n.pQ n hp y d).mp hl;cases h;exact i14 r (cA _ hr) (h2.trans h1.symm) h3 h4
    | none=>
     rw [hl] at h;dsimp only at h;by_cases hy:y=x
     ·rw [aN hy] at h;exact i14 _ (bO _ (aH.mpr rfl)) h1.symm hy.symm (Option.some.inj h)
     ·rw [aJ hy] at h;cases h
   ·intro ii;obtain x14|r|hr|h2|h3|h4:=ii;rcases bR.mp hr with hr | hr
    ·have:=(I.kQ n.pQ n hp y c).mpr (i14 r hr (h2.trans h1) h3 h4);rw [this]
    ·rw [aH.mp hr] at h2 h3 h4;have h3:x=y:=h3;rw [<-h3,free];dsimp only;rw [aN rfl];exact aU some h4
  ·have h1':¬ p=({n with kQ:=n.kQ++ [(x,hY+1+1+1)]}:Nd).pQ:=h1;rw [aJ h1'] at hm;cases ho:ndAt ns p with
   | some o=>
    rw [ho] at hm;cases hm;rw [I.kQ p m ho y c];constructor
    ·intro ii;obtain x12|r|hr|h2:=ii;exact i12 r (cA _ hr) h2
    ·intro ii;obtain x13|r|hr|h2|h3:=ii;rcases bR.mp hr with hr | hr
     ·exact i13 r hr h2 h3
     ·rw [aH.mp hr] at h2;exact aS h2.symm h1
   | none=>
    rw [ho] at hm;dsimp only at hm;by_cases h5:(SD hY n.pQ z).pQ=p
    ·rw [aN h5] at hm;cases hm;have h5:hY+1+1+1=p:=h5;constructor
     ·intro h;cases h
     ·intro ii;obtain x13|r|hr|h2|h3:=ii;exfalso;rcases bR.mp hr with hr | hr
      ·exact rpar r hr (h2.trans h5.symm)
      ·rw [aH.mp hr] at h2;exact h1 h2.symm
    ·rw [aJ h5] at hm;cases hm
 ·rcases bR.mp hr with hr | hr
  ·exact I.names r hr hz
  ·rw [aH.mp hr];exact ⟨hx,ok⟩
 ·obtain x12|r|hr|e:=I.root.1;exact i12 r (cA _ hr) e
 ·rcases bR.mp hr with hr | hr
  ·exact I.root.2 r hr
  ·rw [aH.mp hr];exact ⟨λh=>aS h (nn0 Dg.1),λh=>aS h (lt3 hlen.2.2)⟩
 ·have Cl:((XD ns hY n x z).map λn=>(n.pQ,n.par))=(ns.map λn=>(n.pQ,n.par))++ [(hY+1+1+1,n.pQ)]:=by
   have:=aU (List.map λk:Int×Int×Int×Int=>(k.1,k.2.1)) Ae;rw [cJ,aP,aP] at this;exact this
  rw [Cl];refine ⟨?_,λe he=>?_⟩
  ·show (if (0:Int)=hY+1+1+1 then dep n.pQ+1 else dep 0)=0;rw [aJ (λz=>lt3 (bD (by decide) hlen.2.2) z.symm)];exact T.zero
  ·rcases bR.mp he with he | he
   ·obtain x02|u1|u2:=T.up e he;obtain x12|m|hm|rfl:=aL.mp he;dsimp only at u1 u2 ⊢;rw [aJ (qZ m hm),aJ (hpar m hm)];exact ⟨u1,u2.imp_right λ⟨f,hf,ef⟩=>⟨f,cA _ hf,ef⟩⟩
   ·rw [aH.mp he];dsimp only;rw [aN rfl,aJ (show ¬ n.pQ=hY+1+1+1 from λz=>lt3 Dg.2 z.symm)];exact ⟨rfl,.inr (i12 (n.pQ,n.par) (cA _ (aL.mpr (i12 n Ai rfl))) rfl)⟩
 ·rw [hch];rcases nB hm with rfl | ⟨hm,_⟩
  ·exact I.sums n Ai
  ·rcases bR.mp hm with hm | hm
   ·exact I.sums m hm
   ·rw [aH.mp hm];exact (PN hpar).symm
 ·rcases nB hm with rfl | ⟨hm,_⟩
  ·exact I.bnd n Ai
  ·rcases bR.mp hm with hm | hm
   ·exact I.bnd m hm
   ·rw [aH.mp hm];exact i03 ⟨eK 0,(by decide:(0:Int)<=99)⟩ (eK 0) (by decide:(0:Int)<=99)
 ·have:=aU List.length Ae;simp only [List.length_map,List.length_append,List.length_cons,List.length_nil] at this;rw [this];exact len4 I.len
end
end
section
section
variable {hY:Int} {t:Nat}
theorem EM(nd:(ns.map (·.pQ)).Nodup){n:Nd}(hn:n∈ns)(f:Nd->Int):(sumF ns λc=>if c.pQ=n.pQ then 0 else f c)=sumF ns f - f n:=by
 induction ns with
 | nil=>cases hn
 | cons a r ih=>
  rw [bJ,bN] at nd;rw [xB,xB];rcases aZ.mp hn with rfl | hn
  ·rw [aN rfl];have:(sumF r λc=>if c.pQ=n.pQ then 0 else f c)=sumF r f:=KB λc hc=>aJ λz=>nd.1 (by rw [<-z];exact bI hc);rw [this,fW,Int.add_comm,fQ]
  ·have:a.pQ≠n.pQ:=λz=>nd.1 (by rw [z];exact bI hn);rw [aJ this,ih nd.2 hn];exact (Int.add_sub_assoc ..).symm
theorem TM(nd:(ns.map (·.pQ)).Nodup)(pl:∀ c∈ns,c.pQ≠ -1){n:Nd}(hn:n∈ns)(p:Int):GB ns n.pQ p=GB ns (-1) p - (if n.par=p then n.share else 0):=by
 unfold GB;have e1:(sumF ns λc=>if c.par=p/\c.pQ≠n.pQ then c.share else 0)=sumF ns λc=>if c.pQ=n.pQ then 0 else (if c.par=p then c.share else 0):=KB λc Z=>by
  by_cases h1:c.pQ=n.pQ <;> by_cases h2:c.par=p <;> simp [h1,h2]
 have e2:(sumF ns λc=>if c.par=p/\c.pQ≠ -1 then c.share else 0)=sumF ns λc=>if c.par=p then c.share else 0:=KB λc hc=>by
  have:=pl c hc;by_cases h2:c.par=p <;> simp [h2,this]
 rw [e1,e2,EM nd hn]
theorem QN{ns':List Nd}(h:ns'.map (λn=>(n.pQ,n.par,n.share))=ns.map λn=>(n.pQ,n.par,n.share))(ex p:Int):GB ns' ex p=GB ns ex p:=by
 have:=aU (λl=>(List.map (λk:Int×Int×Int=>if k.2.1=p/\k.1≠ex then k.2.2 else 0) l).sum) h;simp only [List.map_map] at this;exact this
theorem uN(S:Stat ns dep):∀ (k:Nat) (p o:Int),isIn ns k p o=true->dep o<=dep p:=by
 intro k
 induction k with
 | zero=>intro p o h;cases h
 | succ k ih=>
  intro p o h;rw [rB] at h;by_cases hz:p=0
  ·rw [aN hz] at h;cases h
  ·rw [aJ hz] at h;by_cases ho:p=o
   ·rw [ho];exact aY _
   ·rw [aJ ho] at h;cases hn:ndAt ns p with
    | none=>rw [hn] at h;cases h
    | some n=>
     rw [hn] at h;obtain x02|h1|h2:=wA hn;have:=ih n.par o h;have u:=(S.par h1).1;rw [h2] at u;exact u▸cM this
theorem Inv.old(I:Inv hY ns rs t)(S:Stat ns dep){n:Nd}(hp:ndAt ns n.pQ=some n)(hr:rwAt rs n.pQ=some r)(hz:n.par≠0):∃ o,ndAt ns n.par=some o/\o.kQ.lookup r.name=some n.pQ/\((BA o).find? λy=>decide (o.kQ.lookup y=some n.pQ))=some r.name:=by
 obtain x02|Ai|u_:=wA hp;obtain x02|Bb|hr2:=HA hr;obtain x12|n'|hn'|e:=I.nd_of hr;rw [hp] at hn';cases hn';have e1:r.par=n.par:=aU (·.2.1) e;rcases (S.par Ai).2.1 with h | ⟨o,ho⟩
 ·exact aS h hz
 ·have:=I.named Bb (e1▸ho);rw [hr2] at this;exact i13 o ho ((I.kQ n.par o ho r.name n.pQ).mpr (i14 r Bb e1 rfl hr2)) this
theorem Inv.less(I:Inv hY ns rs t)(S:Stat ns dep){n:Nd}(hn:n∈ns){ns2:List Nd}(hk:ns2.map keyN=ns.map keyN)(hs:(ns2.map λn=>(n.pQ,n.par,n.share))=ns.map λn=>(n.pQ,n.par,n.share))(hb:(ns2.map λn=>(n.pQ,n.bel))=ns.map λn=>(n.pQ,n.bel))(hc:sC ns k n.par):
  CuOk k ns2 n.par 0 (0 - n.share)/\(∀ a∈tA k ns2 n.par 0 (0 - n.share),a.bel=GB (tA k ns2 n.par 0 (0 - n.share)) n.pQ a.pQ)/\(tA k ns2 n.par 0 (0 - n.share)).map keyK=ns2.map keyK/\ndAt (tA k ns2 n.par 0 (0 - n.share)) n.pQ=ndAt ns2 n.pQ:=by
 have S2:=S.congr hk;have Az:=(S.par hn).1;have O:Off ns2 n.pQ n.par (0 - n.share):=λa ha=>by
  rw [QN hs,TM I.pnd (λc hc=>nn4 (I.pl c hc).1) hn];obtain x12|b|hb2|eb:=oB hb ha;simp only [Prod.mk.injEq] at eb;have:=I.sums b hb2;rw [eb.1,eb.2,this];by_cases h:b.pQ=n.par
  ·rw [aN h,aN h.symm,Int.zero_sub];rfl
  ·rw [aJ h,aJ (λz=>h z.symm)];exact (dZ _).trans (Int.sub_zero _).symm
 have hx:isIn ns2 k n.par n.pQ=false:=by
  cases h:isIn ns2 k n.par n.pQ with
  | false=>rfl
  | true=>exact aS (Az▸uN S2 _ _ _ h) (gC _)
 obtain x04|i1|i2|i3|i4:=wS (dep:=dep) k ns2 n.par _ S2 O (pH hk k n.par hc) hx;exact i04 i1 i2 i3 (i4 (nn0 (I.pl n hn).1))
theorem pT(ns:List Nd)(p:Int):(rmNd ns p).map keyN=(ns.map keyN).filter λk=>decide (k.1≠p):=by
 unfold rmNd;rw [List.filter_map];rfl
theorem qT(rs:List Rw)(p:Int):(rmRw rs p).map keyR=(rs.map keyR).filter λk=>decide (k.1≠p):=by
 unfold rmRw;rw [List.filter_map];rfl
theorem XG(nd:(ns.map (·.pQ)).Nodup){o:Nd}(ho:o∈ns)(ks:List (Str×Int)):(NA ns {o with kQ:=ks}).map keyN=ns.map keyN/\(NA ns {o with kQ:=ks}).map (λn=>(n.pQ,n.par,n.share))=ns.map (λn=>(n.pQ,n.par,n.share))/\(NA ns {o with kQ:=ks}).map (λn=>(n.pQ,n.bel))=ns.map λn=>(n.pQ,n.bel):=
 i03 (BC _ nd ho rfl rfl) (BC _ nd ho rfl rfl) (BC _ nd ho rfl rfl)
theorem Inv.dropped(I:Inv hY ns rs t)(ht:t<=11)(nk:∀ n∈ns,(n.kQ.map (·.1)).Nodup){n:Nd}(hp:ndAt ns n.pQ=some n)(hr:rwAt rs n.pQ=some r)(hz:n.par≠0)(hkn:n.kQ= []){k1:Nat}(hc:sC ns k1 n.par):
  (∃ o x0,DropOk ns n o x0 k1)/\∀ o x0,DropOk ns n o x0 k1->Inv hY (rmNd (tA k1 (mv1 ns o x0) n.par 0 (0 - n.share)) n.pQ) (rmRw rs n.pQ) (t+1):=by
 obtain x11|dep|T:=I.dep;have S:=I.stat (cM ht) T;obtain x02|Ai|u_:=wA hp;obtain x02|Bb|hr2:=HA hr;obtain x12|n'|hn'|e:=I.nd_of hr;rw [hp] at hn';cases hn';have e1:r.par=n.par:=aU (·.2.1) e;obtain x13|o|ho|hol|hx0:=I.old S hp hr hz;have Az:=(S.par Ai).1;have main:∀ o x0,ndAt ns n.par=some o->CuOk k1 (mv1 ns o x0) n.par 0 (0 - n.share)/\(∀ a∈tA k1 (mv1 ns o x0) n.par 0 (0 - n.share),a.bel=GB (tA k1 (mv1 ns o x0) n.par 0 (0 - n.share)) n.pQ a.pQ)/\(tA k1 (mv1 ns o x0) n.par 0 (0 - n.share)).map keyK=(mv1 ns o x0).map keyK/\ndAt (tA k1 (mv1 ns o x0) n.par 0 (0 - n.share)) n.pQ=ndAt (mv1 ns o x0) n.pQ:=λo x0 ho=>by
  obtain x03|m1|m2|m3:=XG S.pnd (wA ho).1 (uC x0 o.kQ);exact I.less S Ai m1 m2 m3 hc
 refine ⟨i21 o r.name ⟨ho,hx0,(main o r.name ho).1,n,?_⟩,λo' x0 M=>?_⟩
 ·obtain x02|hom|hop:=wA ho;rw [(main o r.name ho).2.2.2,DB];have:¬ n.pQ=({o with kQ:=uC r.name o.kQ}:Nd).pQ:=λz=>by
   have z:n.pQ=o.pQ:=z;rw [hop] at z;rw [z] at Az;exact cK _ Az.symm
  rw [aJ this];exact hp
 ·have hoo:=M.ho;rw [ho] at hoo;cases hoo;have hxx:=M.hx0;rw [hx0] at hxx;cases hxx;obtain x02|hom|hop:=wA ho;obtain x04|c1|c2|c3|c4:=main o r.name ho;have kN2:=(IK c3).trans ((XG S.pnd hom (uC r.name o.kQ)).1)
  revert c1 c2 c3 c4 kN2;refine genE (tA k1 (mv1 ns o r.name) n.par 0 (0 - n.share)) ?_;intro ns2 hns2 c1 c2 c3 c4 kN2
  have hne4:n.pQ≠4:=λz=>hz (by rw [<-e1];exact (I.root.2 r Bb).mpr (hr2.trans z));have nopar:∀ q∈rs,q.par≠n.pQ:=λq hq z=>by
   have:=(I.kQ n.pQ n hp q.name q.pQ).mpr (i14 q hq z rfl rfl);rw [hkn] at this;cases this
  have key:(rmRw rs n.pQ).map keyR=(rmNd ns2 n.pQ).map keyN:=by rw [pT,qT,kN2,I.key]
  have sub:∀ a∈rmNd ns2 n.pQ,a∈ns2/\a.pQ≠n.pQ:=λa ha=>by
   obtain x02|h1|h2:=cN.mp ha;exact ⟨h1,by simpa using h2⟩
  have subR:∀ a,a∈rmRw rs n.pQ ↔ a∈rs/\a.pQ≠n.pQ:=λa=>by
   unfold rmRw;rw [cN];simp
  refine {key:=key,pnd:=?_,pl:=λa ha=>?_,kQ:=λp m hm y c=>?_,names:=λq hq hqz=>I.names q ((subR q).mp hq).1 hqz,root:=⟨?_,λq hq=>I.root.2 q ((subR q).mp hq).1⟩,dep:=⟨dep,T.zero,λf hf=>?_⟩,sums:=λa ha=>?_,bnd:=λa ha=>?_,len:=?_}
  ·have:(ns2.map (·.pQ)).Nodup:=by rw [RL kN2];exact I.pnd
   exact (List.filter_sublist.map _).nodup this
  ·obtain x12|b|hb|eb:=oB kN2 (sub a ha).1;have:a.pQ=b.pQ:=aU (·.1) eb;rw [this];exact I.pl b hb
  ·rw [oM] at hm;by_cases Cl:p=n.pQ
   ·rw [aN Cl] at hm;cases hm
   ·rw [aJ Cl] at hm;have e2:=tV c3 p;rw [hm,DB] at e2;by_cases hpo:p=n.par
    ·have hpo':p=({o with kQ:=uC r.name o.kQ}:Nd).pQ:=hpo.trans hop.symm;rw [aN hpo',hpo,ho] at e2;rw [(aU (·.2.2.2.2) (Option.some.inj e2):m.kQ=uC r.name o.kQ),WE (nk o hom)];by_cases hy:y=r.name
     ·rw [aN hy];constructor
      ·intro h;cases h
      ·intro ii;obtain x14|q|hq|q1|q2|q3:=ii;obtain x02|Cf|hq2:=(subR q).mp hq;have:=I.uniq Cf Bb (q1.trans (hpo.trans e1.symm)) (q2.trans hy);rw [this,hr2] at hq2;exact aS rfl hq2
     ·rw [aJ hy,I.kQ n.par o ho y c];constructor
      ·intro ii;obtain x14|q|hq|q1|q2|q3:=ii;refine i14 q ((subR q).mpr ⟨hq,λz=>hy ?_⟩) (q1.trans hpo.symm) q2 q3;have:q=r:=AB I.rnd hq Bb (z.trans hr2.symm);rw [<-q2,this]
      ·intro ii;obtain x14|q|hq|q1|q2|q3:=ii;exact i14 q ((subR q).mp hq).1 (q1.trans hpo) q2 q3
    ·have hpo':¬ p=({o with kQ:=uC r.name o.kQ}:Nd).pQ:=λz=>hpo (z.trans hop);rw [aJ hpo'] at e2;cases hm2:ndAt ns p with
     | none=>rw [hm2] at e2;cases e2
     | some m2=>
      rw [hm2] at e2;rw [(aU (·.2.2.2.2) (Option.some.inj e2):m.kQ=m2.kQ),I.kQ p m2 hm2 y c];constructor
      ·intro ii;obtain x14|q|hq|q1|q2|q3:=ii;refine i14 q ((subR q).mpr ⟨hq,λz=>hpo ?_⟩) q1 q2 q3;have:q=r:=AB I.rnd hq Bb (z.trans hr2.symm);rw [<-q1,this,e1]
      ·intro ii;obtain x14|q|hq|q1|q2|q3:=ii;exact i14 q ((subR q).mp hq).1 q1 q2 q3
  ·obtain x12|q|hq|e4:=I.root.1;exact i12 q ((subR q).mpr ⟨hq,λz=>hne4 (z.symm.trans e4)⟩) e4
  ·obtain x12|a|ha|rfl:=aL.mp hf;obtain x02|ha1|ha2:=sub a ha;obtain x12|b|hb|eb:=oB kN2 ha1;dsimp only;rw [(aU (·.1) eb:a.pQ=b.pQ),(aU (·.2.1) eb:a.par=b.par)];refine ⟨(S.par hb).1,(S.par hb).2.1.imp_right λ⟨m,hm⟩=>?_⟩;obtain x02|hm1|hm2:=wA hm;obtain x12|m'|hm'|em:=oB kN2.symm hm1;have em1:m.pQ=m'.pQ:=aU (·.1) em;have hnp:m'.pQ≠n.pQ:=λz=>by
    obtain x12|q|hq|eq:=I.rw_of (VA I.pnd hb);exact nopar q (HA hq).1 ((aU (·.2.1) eq:q.par=b.par).trans (hm2.symm.trans (em1.trans z)))
   exact i12 (m'.pQ,m'.par) (aL.mpr (i12 m' (cN.mpr ⟨hm',by simpa using hnp⟩) rfl)) (em1.symm.trans hm2)
  ·obtain x02|ha1|ha2:=sub a ha;rw [c2 a ha1];unfold GB;rw [IV];refine KB λc hc=>?_;obtain x12|b|hb|eb:=oB kN2 hc;have eb1:c.pQ=b.pQ:=aU (·.1) eb;have:=I.pl b hb;have hm1:c.pQ≠ -1:=λe=>nn4 this.1 (eb1.symm.trans e);by_cases h1:c.pQ=n.pQ <;> by_cases h2:c.par=a.pQ <;> simp [h1,h2,hm1]
  ·obtain x12|b|hb|eb:=oB kN2 (sub a ha).1;rw [(aU (·.2.2.1) eb:a.used=b.used),(aU (·.2.2.2) eb:a.res=b.res)];exact I.bnd b hb
  ·have h1:(rmNd ns2 n.pQ).length<=ns2.length:=dU _ _;have h2:=aU List.length kN2;simp only [List.length_map] at h2;have u:=len3 I.len (cE t);exact ⟨aE h1 (h2▸u.1),u.2⟩
end
end
section
section
variable {hY:Int} {t:Nat}
theorem Inv.kids_len(I:Inv hY ns rs t){p:Int}{n:Nd}(hn:ndAt ns p=some n)(nk:(n.kQ.map (·.1)).Nodup):n.kQ.length<=ns.length:=by
 have h1:=PQ nk (l':=(rs.filter λc=>decide (c.par=p)).map (·.name)) λx hx=>(I.kid_mem hn x).mp hx;rw [aO,aO] at h1;have h2:=dU (λc:Rw=>decide (c.par=p)) rs;exact I.rlen▸aE h1 h2
theorem HI{o:Int}(ho:o≠0):∀ (k:Nat) (p:Int),sC ns k p->isIn ns k p o=false->∀ j,isIn ns j p o=false:=by
 intro k
 induction k with
 | zero=>
  intro p c _ j
  induction j using nCq with
  | zero=>rfl
  | succ j=>rw [rB,aN (c:p=0)]
 | succ k ih=>
  intro p c h j
  induction j using nCq with
  | zero=>rfl
  | succ j=>
   rw [rB] at h ⊢;by_cases hz:p=0
   ·rw [aN hz]
   ·rw [aJ hz] at h ⊢;by_cases hp:p=o
    ·rw [aN hp] at h;cases h
    ·rw [aJ hp] at h ⊢;rcases c with c | ⟨n,hn,c⟩
     ·exact aS c hz
     ·rw [hn] at h ⊢;exact ih n.par c h j
theorem EL{ns':List Nd}{o:Int}(h:∀ p,p≠o->(ndAt ns' p).map (·.par)=(ndAt ns p).map (·.par)):∀ (k:Nat) (p:Int),sC ns k p->isIn ns k p o=false->sC ns' k p:=by
 intro k
 induction k with
 | zero=>intro p c _;exact c
 | succ k ih=>
  intro p c hi;rcases c with c | ⟨n,hn,c⟩
  ·exact .inl c
  ·rw [rB] at hi;by_cases hz:p=0
   ·exact .inl hz
   ·rw [aJ hz] at hi;by_cases hp:p=o
    ·rw [aN hp] at hi;cases hi
    ·rw [aJ hp,hn] at hi;have e:=h p hp;rw [hn] at e;cases hm:ndAt ns' p with
     | none=>rw [hm] at e;cases e
     | some m=>
      rw [hm] at e;exact .inr (i12 m hm ((Option.some.inj e:m.par=n.par)▸ih n.par c hi))
theorem GK{o:Int}(ho:o≠0){k':Nat}{p:Int}(c:sC ns k p)(h:isIn ns k p o=false):isIn ns k' p o=false:=HI ho k p c h k'
theorem Inv.kids1(I:Inv hY ns rs t)(nk:∀ n∈ns,(n.kQ.map (·.1)).Nodup){n:Nd}(hr:rwAt rs n.pQ=some r)(e1:r.par=n.par){o:Nd}(ho:ndAt ns n.par=some o){p:Int}{m:Nd}(hm:ndAt (mv1 ns o r.name) p=some m)(y:Str)(c:Int):
  m.kQ.lookup y=some c ↔ ∃ q∈rs,q.pQ≠n.pQ/\q.par=p/\q.name=y/\q.pQ=c:=by
 obtain x02|Bb|hr2:=HA hr;obtain x02|hom|hop:=wA ho;rw [DB] at hm;by_cases hpo:p=n.par
 ·have hpo':p=({o with kQ:=uC r.name o.kQ}:Nd).pQ:=hpo.trans hop.symm;rw [aN hpo',hpo,ho] at hm;cases hm;rw [show ({o with kQ:=uC r.name o.kQ}:Nd).kQ=uC r.name o.kQ from rfl,WE (nk o hom)];by_cases hy:y=r.name
  ·rw [aN hy];constructor
   ·intro h;cases h
   ·intro ii;obtain x15|q|hq|hq2|q1|q2|q3:=ii;have:=I.uniq hq Bb (q1.trans (hpo.trans e1.symm)) (q2.trans hy);rw [this,hr2] at hq2;exact aS rfl hq2
  ·rw [aJ hy,I.kQ n.par o ho y c];constructor
   ·intro ii;obtain x14|q|hq|q1|q2|q3:=ii;refine i15 q hq (λz=>hy ?_) (q1.trans hpo.symm) q2 q3;have:q=r:=AB I.rnd hq Bb (z.trans hr2.symm);rw [<-q2,this]
   ·intro ii;obtain x15|q|hq|u_|q1|q2|q3:=ii;exact i14 q hq (q1.trans hpo) q2 q3
 ·have hpo':¬ p=({o with kQ:=uC r.name o.kQ}:Nd).pQ:=λz=>hpo (z.trans hop);rw [aJ hpo'] at hm;rw [I.kQ p m hm y c];constructor
  ·intro ii;obtain x14|q|hq|q1|q2|q3:=ii;refine i15 q hq (λz=>hpo ?_) q1 q2 q3;have:q=r:=AB I.rnd hq Bb (z.trans hr2.symm);rw [<-q1,this,e1]
  ·intro ii;obtain x15|q|hq|u_|q1|q2|q3:=ii;exact i14 q hq q1 q2 q3
theorem EQ{s:Int}{p r:Prop} [Decidable p] [Decidable r](hr:r):(if p/\r then s else 0)=(if p then s else 0):=by
 by_cases hp:p
 ·rw [aN hp,aN ⟨hp,hr⟩]
 ·rw [aJ hp,aJ (λz=>hp z.1)]
theorem YW{a s:Int}{p q r:Prop} [Decidable p] [Decidable q] [Decidable r](hr:r):a+((if p/\r then s else 0) - if q/\r then s else 0)=(a - if q then s else 0)+if p then s else 0:=by
 rw [EQ hr,EQ hr];refine genI (if p then s else 0) ?_;intro x;refine genI (if q then s else 0) ?_;intro y;rw [Int.sub_eq_add_neg,Int.sub_eq_add_neg,Int.add_right_comm,dD]
theorem Inv.moved(I:Inv hY ns rs t)(ht:t<=11)(nk:∀ n∈ns,(n.kQ.map (·.1)).Nodup){n tn:Nd}(hp:ndAt ns n.pQ=some n)(hr:rwAt rs n.pQ=some r){np:Int}(htn:ndAt ns np=some tn)(hx:x∈lawNames)(ok:MA x=true)(hz:n.par≠0)
  {k:Nat} (hck:sC ns k np) (hin:isIn ns k np n.pQ=false) (free:tn.kQ.lookup x=none) {k1 k2:Nat} (hc1:sC ns k1 n.par) (hc2:sC ns k2 np):
  (∃ o x0 t1,MoveOk ns n np x o x0 t1 k1 k2)/\∀ o x0 t1,MoveOk ns n np x o x0 t1 k1 k2->Inv hY (mv5 ns n np x o x0 t1 k1 k2) (MC rs {r with par:=np,name:=x}) (t+1):=by
 obtain x11|dep|T:=I.dep;have S:=I.stat (cM ht) T;obtain x02|Ai|u_:=wA hp;obtain x02|htm|htp:=wA htn;obtain x02|Bb|hr2:=HA hr;obtain x12|n'|hn'|e:=I.nd_of hr;rw [hp] at hn';cases hn';have e1:r.par=n.par:=aU (·.2.1) e;obtain x13|o|ho|hol|hx0:=I.old S hp hr hz;obtain x02|hom|hop:=wA ho;have Az:=(S.par Ai).1;have Dg:=I.pl n Ai;have htpl:=I.pl tn htm;have hlen:=I.len;have Dm:=S.ok n Ai;have hnz:n.pQ≠0:=nn0 Dg.1;have hnpz:np≠0:=htp▸nn0 htpl.1;have hnpn:np≠n.pQ:=λz=>by
  have h:=GK (k':=1) hnz hck hin;rw [rB,aJ hnpz,aN z] at h;cases h
 have hnp2:n.pQ≠n.par:=λz=>by rw [z] at Az;exact cK _ Az.symm
 have kN1:=XG S.pnd hom (uC r.name o.kQ);have pnd1:((mv1 ns o r.name).map (·.pQ)).Nodup:=by rw [PC];exact S.pnd
 have ht1e:∃ t1,ndAt (mv1 ns o r.name) np=some t1/\t1.kQ.lookup x=none/\t1.kQ.length < 63:=by
  have hkl:=I.kids_len htn (nk tn htm);by_cases Cp:np=o.pQ
  ·have hto:tn=o:=by
    rw [Cp,hop,ho] at htn;exact (Option.some.inj htn).symm
   refine i13 ({o with kQ:=uC r.name o.kQ}) ?_ ?_ ?_
   ·rw [DB,aN (show np=({o with kQ:=uC r.name o.kQ}:Nd).pQ from Cp),htn];rfl
   ·show (uC r.name o.kQ).lookup x=none;rw [WE (nk o hom)];rw [hto] at free;split
    ·rfl
    ·exact free
   ·show (uC r.name o.kQ).length < 63;have:=(xK r.name o.kQ).length_le;rw [hto] at hkl;exact bF (aE this (aE hkl (aE hlen.1 (bP ht)))) (by decide)
  ·refine ⟨tn,?_,free,bF (aE hkl (aE hlen.1 (bP ht))) (by decide)⟩;rw [DB,aJ (show ¬ np=({o with kQ:=uC r.name o.kQ}:Nd).pQ from Cp)];exact htn
 have main:∀ t1,ndAt (mv1 ns o r.name) np=some t1->t1.kQ.lookup x=none->t1.kQ.length < 63->MoveOk ns n np x o r.name t1 k1 k2/\Inv hY (mv5 ns n np x o r.name t1 k1 k2) (MC rs {r with par:=np,name:=x}) (t+1):=λt1 ht1 fr1 ln1=>by
  obtain x02|ht1m|ht1p:=wA ht1
  let M3:=mv3 ns n x o r.name t1 k1
  let M4:=mv4 ns n np x o r.name t1 k1
  have kN2:=XG pnd1 ht1m (t1.kQ++ [(x,n.pQ)]);have kN:(mv2 ns n x o r.name t1).map keyN=ns.map keyN:=kN2.1.trans kN1.1;obtain x04|c1|c2|c3|c4:=I.less S Ai (ns2:=mv2 ns n x o r.name t1) kN (kN2.2.1.trans kN1.2.1) (kN2.2.2.trans kN1.2.2) hc1;have hn2:ndAt (mv2 ns n x o r.name t1) n.pQ=some n:=by
   rw [DB,aJ (show ¬ n.pQ=({t1 with kQ:=t1.kQ++ [(x,n.pQ)]}:Nd).pQ from λz=>hnpn (ht1p.symm.trans z.symm)),DB,aJ (show ¬ n.pQ=({o with kQ:=uC r.name o.kQ}:Nd).pQ from λz=>hnp2 (z.trans hop))];exact hp
  have hn3:ndAt M3 n.pQ=some n:=c4.trans hn2;have kN3:M3.map keyN=ns.map keyN:=(IK c3).trans kN;have hsum3:∀ a∈M3,a.bel=GB M3 n.pQ a.pQ:=c2;have S3:=S.congr kN3;have wZ:=(wA hn3).1;have pl3:∀ c∈M3,c.pQ≠ -1:=λc hc=>nn4 (S3.ok c hc).1.1;have Ac:M4.map keyN=(ns.map keyN).map λq=>if q.1=n.pQ then (n.pQ,np,n.used,n.res) else q:=by
   show (NA _ _).map keyN=_;rw [ZH,kN3]
  have As:(M4.map λn=>(n.pQ,n.par))=(ns.map λn=>(n.pQ,n.par)).map λq=>if q.1=n.pQ then (n.pQ,np) else q:=by
   have:=aU (List.map λq:Int×Int×Int×Int=>(q.1,q.2.1)) Ac;rw [aP,aP,aP] at this;rw [aP] at ⊢;refine this.trans (bZ λa Z=>?_);show (λq:Int×Int×Int×Int=>(q.1,q.2.1)) (if a.pQ=n.pQ then (n.pQ,np,n.used,n.res) else keyN a)=if a.pQ=n.pQ then (n.pQ,np) else (a.pQ,a.par);split <;> rfl
  have ch4:∀ p,GB M4 (-1) p=GB M3 n.pQ p+(if np=p then n.share else 0):=λp=>by
   have h1:=TM S3.pnd pl3 wZ p;show GB (NA _ _) (-1) p=_;unfold GB at h1 ⊢;rw [GN _ S3.pnd wZ (m:={n with par:=np}) rfl,h1];have hnn:n.pQ≠ -1:=nn4 Dg.1;have e4:({n with par:=np}:Nd).share=n.share:=rfl;have e5:({n with par:=np}:Nd).pQ=n.pQ:=rfl;have e6:({n with par:=np}:Nd).par=np:=rfl;rw [e4,e5,e6];exact YW hnn
  have O4:Off M4 (-1) np n.share:=λa ha=>by
   rw [ch4];have ab:a.bel=GB M3 n.pQ a.pQ:=by
    rcases nB ha with rfl | ⟨ha,_⟩
    ·exact hsum3 n wZ
    ·exact hsum3 a ha
   rw [ab];by_cases h:a.pQ=np
   ·rw [aN h,aN h.symm]
   ·rw [aJ h,aJ (λz=>h z.symm)]
  have sub0:∀ j,isIn ns j 0 n.pQ=false:=λj=>by
   induction j using nCq with
   | zero=>rfl
   | succ j=>rw [rB,aN rfl]
  have subn:∃ j,isIn ns j n.pQ n.pQ=true:=⟨1,by rw [rB,aJ hnz,aN rfl]⟩;have subm:∀ m∈ns,m.pQ≠n.pQ->((∃ j,isIn ns j m.pQ n.pQ=true) ↔ ∃ j,isIn ns j m.par n.pQ=true):=λm hm hne=>by
   have hmz:m.pQ≠0:=nn0 (I.pl m hm).1;have hma:=VA I.pnd hm;constructor
   ·intro ii;obtain x11|j|hj:=ii
    induction j using nCq with
    | zero=>cases hj
    | succ j=>
     rw [rB,aJ hmz,aJ hne,hma] at hj;exact ⟨j,hj⟩
   ·intro ii;obtain x11|j|hj:=ii;refine ⟨j+1,?_⟩;rw [rB,aJ hmz,aJ hne,hma];exact hj
  classical
  have T4:Tree (M4.map λn=>(n.pQ,n.par)) (λq=>if ∃ j,isIn ns j q n.pQ=true then dep q+dep np+1 - dep n.pQ else dep q):=by
   have no0:¬ ∃ j,isIn ns j 0 n.pQ=true:=λ⟨j,hj⟩=>by rw [sub0 j] at hj;cases hj
   have nonp:¬ ∃ j,isIn ns j np n.pQ=true:=λ⟨j,hj⟩=>by rw [(HI hnz k np hck hin:∀ j,isIn ns j np n.pQ=false) j] at hj;cases hj
   refine ⟨?_,λf hf=>?_⟩
   ·show (if ∃ j,isIn ns j 0 n.pQ=true then dep 0+dep np+1 - dep n.pQ else dep 0)=0;rw [aJ no0];exact T.zero
   ·rw [As] at hf ⊢;obtain x12|g|hg|rfl:=aL.mp hf;obtain x12|m|hm|rfl:=aL.mp hg;have inn:∀ b∈ns,∃ f∈((ns.map λn=>(n.pQ,n.par)).map λq=>if q.1=n.pQ then (n.pQ,np) else q),f.1=b.pQ:=λb hb=>by
     refine i12 _ (aL.mpr (i12 (b.pQ,b.par) (aL.mpr (i12 b hb rfl)) rfl)) ?_;dsimp only;split
     ·rename_i h;exact h.symm
     ·rfl
    by_cases hmn:m.pQ=n.pQ
    ·dsimp only;rw [aN hmn];dsimp only;rw [aN subn,aJ nonp];refine ⟨by rw [fL];exact eQ ..,.inr ?_⟩;obtain x12|f|Cj|hf2:=inn tn htm;exact i12 f Cj (hf2.trans htp)
    ·dsimp only;rw [aJ hmn];dsimp only;obtain x03|u1|u2|u_:=S.par hm;refine ⟨?_,u2.imp_right λ⟨b,hb⟩=>?_⟩
     ·by_cases hs:∃ j,isIn ns j m.pQ n.pQ=true
      ·have Ci:=(subm m hm hmn).mp hs;rw [aN hs,aN Ci];obtain x11|j|hj:=Ci;exact tre u1 (uN S _ _ _ hj)
      ·have Ci:¬ ∃ j,isIn ns j m.par n.pQ=true:=λz=>hs ((subm m hm hmn).mpr z);rw [aJ hs,aJ Ci];exact u1
     ·obtain x02|hb1|hb2:=wA hb;obtain x12|f|Cj|hf2:=inn b hb1;exact i12 f Cj (hf2.trans hb2)
  have len4:M4.length=ns.length:=by
   have:=aU List.length Ac;simpa using this
  have ok4:∀ a∈M4,(4<=a.pQ/\a.pQ<=hY)/\(0<=a.used/\a.used<=99)/\0<=a.res/\a.res<=99:=λa ha=>by
   rcases nB ha with rfl | ⟨ha,_⟩
   ·exact ⟨Dg,Dm.2⟩
   ·obtain x12|b|hb|eb:=oB kN3 ha;rw [(aU (·.1) eb:a.pQ=b.pQ),(aU (·.2.2.1) eb:a.used=b.used),(aU (·.2.2.2) eb:a.res=b.res)];exact ⟨I.pl b hb,(S.ok b hb).2⟩
  have pnd4:(M4.map (·.pQ)).Nodup:=by
   show ((NA _ _).map (·.pQ)).Nodup;rw [PC];exact S3.pnd
  have S4:Stat M4 _:=⟨pnd4,T4,by rw [len4];exact S.len,λa ha=>⟨⟨(ok4 a ha).1.1,pl8 (ok4 a ha).1.2 hlen.2.1 (cM ht)⟩,(ok4 a ha).2⟩⟩;have par4:∀ p,p≠n.pQ->(ndAt M4 p).map (·.par)=(ndAt ns p).map (·.par):=λp hpne=>by
   show (ndAt (NA _ _) p).map (·.par)=_;rw [DB,aJ (show ¬ p=({n with par:=np}:Nd).pQ from hpne)];have:=aU (Option.map λq:Int×Int×Int×Int=>q.2.1) (QL kN3 p);rw [Option.map_map,Option.map_map] at this;exact this
  obtain x04|d1|d2|d3|u_:=wS (ex:= -1) k2 _ np n.share S4 O4 (EL par4 k2 np hc2 (GK hnz hck hin:isIn ns k2 np n.pQ=false):sC M4 k2 np) (wV (λm hm=>nn1 (S4.par_le hm).1) k2 np (htp▸nn4 htpl.1));have fit:({n with par:=np}:Nd).Fit:=by
   have Ar:=S.ch_le (ex:= -1) (q:=n.pQ) (δ:=0) (λa ha=>by rw [ite_self];exact (dZ _).trans (I.sums a ha));refine S.fit (m:={n with par:=np}) Ai rfl (show 0<=np/\np<=800 from htp▸⟨bD (by decide) htpl.1,pl8 htpl.2 hlen.2.1 (cM ht)⟩) Dm.2.1 Dm.2.2 ?_;show 0<=n.bel/\n.bel<=_;rw [I.sums n Ai];exact ⟨(S.ch_nn (-1) n.pQ),Ar⟩
  refine ⟨⟨ho,hx0,ht1,fr1,ln1,c1,hn3,fit,d1⟩,?_⟩;have kN5:(mv5 ns n np x o r.name t1 k1 k2).map keyN=M4.map keyN:=IK d3;have hkid:((mv5 ns n np x o r.name t1 k1 k2).map λn=>(n.pQ,n.kQ))=(mv2 ns n x o r.name t1).map λn=>(n.pQ,n.kQ):=by
   have h1:=aU (List.map λq:Int×Int×Int×Int×List (Str×Int)=>(q.1,q.2.2.2.2)) d3;rw [aP,aP] at h1;have h3:=aU (List.map λq:Int×Int×Int×Int×List (Str×Int)=>(q.1,q.2.2.2.2)) c3;rw [aP,aP] at h3;exact (show _=_ from h1).trans ((BC _ S3.pnd wZ rfl rfl:(M4.map λn=>(n.pQ,n.kQ))=M3.map λn=>(n.pQ,n.kQ)).trans h3)
  have memR:∀ q,q∈MC rs {r with par:=np,name:=x} ↔ q={r with par:=np,name:=x}\/(q∈rs/\q.pQ≠n.pQ):=λq=>by
   constructor
   ·intro h;rcases oL h with h | ⟨h,h2⟩
    ·exact .inl h
    ·exact .inr ⟨h,λz=>h2 (z.trans hr2.symm)⟩
   ·rintro (h | ⟨h,h2⟩)
    ·rw [h];exact aL.mpr (i12 r Bb (aN rfl))
    ·exact aL.mpr (i12 q h (aJ λz=>h2 (z.trans hr2)))
  refine {key:=?_,pnd:=?_,pl:=λa ha=>?_,kQ:=λp m hm y c=>?_,names:=λq hq hqz=>?_,root:=⟨?_,λq hq=>?_⟩,dep:=⟨_,by rw [IQ kN5];exact T4⟩,sums:=d2,bnd:=λa ha=>?_,len:=?_}
  ·rw [kN5,Ac,iI,I.key];have:keyR {r with par:=np,name:=x}=(n.pQ,np,n.used,n.res):=by
    show (r.pQ,np,r.used,r.res)=_;rw [hr2,(aU (·.2.2.1) e:r.used=n.used),(aU (·.2.2.2) e:r.res=n.res)]
   rw [this];have:({r with par:=np,name:=x}:Rw).pQ=n.pQ:=hr2;rw [this]
  ·rw [RL kN5];exact pnd4
  ·obtain x12|b|hb|eb:=oB kN5 ha;rw [(aU (·.1) eb:a.pQ=b.pQ)];exact (ok4 b hb).1
  ·have e2:=JK (f:=λn=>(n.pQ,n.kQ)) (λa b h=>aU (·.1) h) hkid p;rw [hm] at e2;cases hm2:ndAt (mv2 ns n x o r.name t1) p with
   | none=>rw [hm2] at e2;cases e2
   | some m2=>
    rw [hm2] at e2;rw [(aU (·.2) (Option.some.inj e2):m.kQ=m2.kQ)];rw [DB] at hm2;have rhs:(∃ q∈MC rs {r with par:=np,name:=x},q.par=p/\q.name=y/\q.pQ=c) ↔ (np=p/\x=y/\n.pQ=c)\/∃ q∈rs,q.pQ≠n.pQ/\q.par=p/\q.name=y/\q.pQ=c:=by
     constructor
     ·intro ii;obtain x14|q|hq|q1|q2|q3:=ii;rcases (memR q).mp hq with h | ⟨h,h2⟩
      ·subst h;exact .inl (i03 q1 q2 (hr2.symm.trans q3))
      ·exact .inr (i15 q h h2 q1 q2 q3)
     ·rintro (⟨q1,q2,q3⟩ | ⟨q,h,h2,q1,q2,q3⟩)
      ·exact i14 _ ((memR _).mpr (.inl rfl)) q1 q2 (hr2.trans q3)
      ·exact i14 q ((memR q).mpr (.inr ⟨h,h2⟩)) q1 q2 q3
    rw [rhs];by_cases hpt:p=np
    ·have hpt':p=({t1 with kQ:=t1.kQ++ [(x,n.pQ)]}:Nd).pQ:=hpt.trans ht1p.symm;rw [aN hpt',hpt,ht1] at hm2;cases hm2;rw [show ({t1 with kQ:=t1.kQ++ [(x,n.pQ)]}:Nd).kQ=t1.kQ++ [(x,n.pQ)] from rfl,MI];rw [hpt];rw [<-(I.kids1 nk hr e1 ho ht1 y c)];cases hl:t1.kQ.lookup y with
     | some d=>
      dsimp only;constructor
      ·intro h;exact .inr h
      ·rintro (⟨_,q2,_⟩ | h)
       ·rw [<-q2,fr1] at hl;cases hl
       ·exact h
     | none=>
      dsimp only;by_cases hy:y=x
      ·rw [aN hy];constructor
       ·intro h;exact .inl (i03 rfl hy.symm (Option.some.inj h))
       ·rintro (⟨_,_,q3⟩ | h)
        ·rw [q3]
        ·cases h
      ·rw [aJ hy];constructor
       ·intro h;cases h
       ·rintro (⟨_,q2,_⟩ | h)
        ·exact aS q2.symm hy
        ·cases h
    ·have hpt':¬ p=({t1 with kQ:=t1.kQ++ [(x,n.pQ)]}:Nd).pQ:=λz=>hpt (z.trans ht1p);rw [aJ hpt'] at hm2;rw [I.kids1 nk hr e1 ho hm2 y c];constructor
     ·intro h;exact .inr h
     ·rintro (⟨q1,_⟩ | h)
      ·exact aS q1.symm hpt
      ·exact h
  ·rcases (memR q).mp hq with h | ⟨h,_⟩
   ·rw [h];exact ⟨hx,ok⟩
   ·exact I.names q h hqz
  ·obtain x12|q|hq|e4:=I.root.1;have hne4:n.pQ≠4:=λz=>hz (by rw [<-e1];exact (I.root.2 r Bb).mpr (hr2.trans z));exact i12 q ((memR q).mpr (.inr ⟨hq,λz=>hne4 (z.symm.trans e4)⟩)) e4
  ·rcases (memR q).mp hq with h | ⟨h,_⟩
   ·subst h;constructor
    ·intro h;exact aS h hnpz
    ·intro h;exact aS (e1▸(I.root.2 r Bb).mpr (h:r.pQ=4)) hz
   ·exact I.root.2 q h
  ·obtain x12|b|hb|eb:=oB kN5 ha;rw [(aU (·.2.2.1) eb:a.used=b.used),(aU (·.2.2.2) eb:a.res=b.res)];exact (ok4 b hb).2
  ·have:=aU List.length kN5;simp only [List.length_map] at this;have u:=len3 I.len (cE t);exact ⟨aE (bV (this.trans len4)) u.1,u.2⟩
 obtain x13|t1|h1|h2|h3:=ht1e;refine ⟨i31 o r.name t1 (main t1 h1 h2 h3).1,λo' x0 t1' M=>?_⟩;have hoo:=M.ho;rw [ho] at hoo;cases hoo;have hxx:=M.hx0;rw [hx0] at hxx;cases hxx;exact (main t1' M.ht1 M.free M.len).2
end
end
section
section
variable {hY:Int} {t:Nat}
theorem Inv.later(I:Inv hY ns rs t):Inv hY ns rs (t+1):={I with len:=len3 I.len (cE t)}
theorem Inv.link(I:Inv hY ns rs t){p:Int}{n:Nd}(hn:ndAt ns p=some n)(x:Str):(n.kQ.lookup x).isSome=uE rs p x:=by
 unfold uE;cases h:n.kQ.lookup x with
 | some c=>
  obtain x14|r|hr|h1|h2|h3:=(I.kQ p n hn x c).mp h;have:(rs.any λc=>decide (c.par=p) && decide (c.name=x))=true:=gI.mpr ⟨r,hr,by simp [h1,h2]⟩;rw [this];rfl
 | none=>
  cases h2:(rs.any λc=>decide (c.par=p) && decide (c.name=x)) with
  | false=>rfl
  | true=>
   obtain x12|r|hr|h3:=gI.mp h2;simp only [Bool.and_eq_true,decide_eq_true_eq] at h3;have:=(I.kQ p n hn x r.pQ).mpr (i14 r hr h3.1 h3.2 rfl);rw [h] at this;cases this
theorem Inv.emp(I:Inv hY ns rs t){p:Int}{n:Nd}(hn:ndAt ns p=some n):n.kQ.isEmpty= !(rs.any λc=>decide (c.par=p)):=by
 cases hk:n.kQ with
 | nil=>
  cases h2:(rs.any λc=>decide (c.par=p)) with
  | false=>rfl
  | true=>
   obtain x12|r|hr|h3:=gI.mp h2;have:=(I.kQ p n hn r.name r.pQ).mpr (i14 r hr (aX h3) rfl rfl);rw [hk] at this;cases this
 | cons e r=>
  have hl:n.kQ.lookup e.1=some e.2:=by rw [hk,bQ];simp
  obtain x13|q|hq|h1|u_:=(I.kQ p n hn e.1 e.2).mp hl;have:(rs.any λc=>decide (c.par=p))=true:=gI.mpr ⟨q,hq,by simp [h1]⟩;rw [this];rfl
theorem US{i:Nat}(h:i < 12):∃ x,lawNames[i]? =some x/\x∈lawNames/\x.cps.size<=1000:=by
 have hl:lawNames.length=12:=rfl;have hb:∀ x∈lawNames,x.cps.size<=1000:=by decide+kernel
 have e:=bK (l:=lawNames) (by rw [hl];exact h:i < lawNames.length);exact i13 _ e (cT e) (hb _ (cT e))
end
section
variable {A:Adr} {R:Nat} {hY:Int} {t:Nat}
theorem nO(X:Wld H0 A R hY ns rs)(I:Inv hY ns rs t)(ht:t<=11){x y z:Int}
  (q:∀ h hY' ns' rs',Wld h A R hY' ns' rs'->Inv hY' ns' rs' (t+1)->Nxt H0 (wC A R ns rs) h (wC A R ns' rs')->Q (.bool true) {h:=h,l:=L0}):
  W (pg w) (λF=>F.call (.glob 508) [.ref A.b,.ref R,.int x,.int y,.int z] (d+10)) Q E ⟨H0,L0⟩:=by
 obtain x11|dep|T:=I.dep;have S0:=I.stat (cM ht) T;have TR:=I.tree T;have hlen:=I.len;have hrl:=I.rlen;obtain x21|nt|zp|Rp:=X.rep;have nk:∀ n∈ns,(n.kQ.map (·.1)).Nodup:=λn hn=>(Rp.kok n hn).2;obtain x12|r0|hr0|u_:=I.root.1;have hpos:0 < rs.length:=List.length_pos_of_mem hr0;have h12:rs.length<=12:=hrl▸aE hlen.1 (bP ht);have Cv:0 < (rs.length:Int):=eG.mpr hpos;have Cu:0 < (rs.length:Int)/\(rs.length:Int) < 1000000:=⟨Cv,cD (cO.mpr h12) (by decide)⟩;have Dj:xD ((UA rs).map (·.1))=some ((SA (λa b:Int=>decide (a < b)) (rs.map (·.pQ))).map V.int):=by
  have e:(UA rs).map (·.1)=(rs.map (·.pQ)).map V.int:=by unfold UA;rw [aP,aP];rfl
  rw [e];unfold xD;rw [PL]
 have Di:(SA (λa b:Int=>decide (a < b)) (rs.map (·.pQ))).length=rs.length:=by rw [AG,aO]
 have pick:∀ v:Int,∃ p,((SA (λa b:Int=>decide (a < b)) (rs.map (·.pQ))).map V.int)[(v % (rs.length:Int)).toNat]? =some (.int p)/\∃ r,rwAt rs p=some r/\r.pQ=p:=λv=>by
  have h1:=fX v (hU Cv);have h2:=fE v Cv;have hlt:(v % (rs.length:Int)).toNat < (SA (λa b:Int=>decide (a < b)) (rs.map (·.pQ))).length:=by rw [Di];exact (Int.toNat_lt h1).mpr h2
  have e:=bK hlt;obtain x12|r|hr|hp:=aL.mp ((pB _ _ _).mp (cT e));refine i12 _ (by rw [bS,e];rfl) ⟨r,?_,hp⟩;rw [<-hp];exact yA I.rnd hr
 refine W.f (P:=pg w) rfl ?_;intro P J J' E' L';obtain x11|kR|eR:=X.rows.dict;refine W.stC (W.sA (W.cG (by rfl) (W.la rfl (W.en rfl (W.bi (W.pK eR (aF (by simp;exact bF h12 (by decide))) Dj (W.asN rfl ?_)))))));refine genE (H0.length) ?_;intro m hm;have e1:(H0++ [O.list ((SA (λa b:Int=>decide (a < b)) (rs.map (·.pQ))).map V.int)])[m]? =some (.list ((SA (λa b:Int=>decide (a < b)) (rs.map (·.pQ))).map V.int)):=by subst hm;exact oA
 have p1:Pre H0 (H0++ [O.list ((SA (λa b:Int=>decide (a < b)) (rs.map (·.pQ))).map V.int)]):=Pre.app _ _
 (try dsimp only)
 revert e1 p1;refine genI (H0++ [O.list ((SA (λa b:Int=>decide (a < b)) (rs.map (·.pQ))).map V.int)]) ?_;intro h1 e1 p1
 obtain x12|p|hp1|Do:=pick y;obtain x12|r|hr|hrp:=Do;obtain x12|o|ho1|Dn:=pick (z / 12);obtain x12|ro|hro|hrop:=Dn;have z12:=fX z (show (12:Int)≠0 by decide);have z12':=fE z (show (0:Int) < 12 by decide);obtain x13|nm|Ai|hnmem|hnz:=US (i:=(z % 12).toNat) ((Int.toNat_lt z12).mpr z12');have modN:∀ {a b:Int},0 < b/\b < 1000000->binM .Mod (.int a) (.int b)=Pure.pure (.int (a % b)):=λ{a b} h=>aN h;have divN:∀ {a b:Int},0 < b/\b < 1000000->binM .FloorDiv (.int a) (.int b)=Pure.pure (.int (a / b)):=λ{a b} h=>aN h;have vY:((SA (λa b:Int=>decide (a < b)) (rs.map (·.pQ))).map V.int).length=rs.length:=by rw [aO,Di]
 have idx:∀ v:Int,0<=v % (rs.length:Int)/\v % (rs.length:Int) < 2 ^ 62:=λv=>by
  have h1:=fX v (hU Cv);have h2:=fE v Cv;exact ⟨h1,fB h2 (fB Cu.2 (by decide))⟩
 refine W.stC (W.WF (names:= ["place","other","name"]) rfl rfl (W.TB rfl rfl ?_));refine W.it (W.lo rfl (W.GA (W.lo rfl (W.cG (by rfl) (W.la rfl (W.en rfl (W.bi (W.mP e1 (by rw [vY];exact aE h12 (by decide)) ?_))))))));rw [vY];refine W.jA (λZ=>modN Cu) (W.RE e1 (idx y) hp1 ?_);refine W.it (W.lo rfl (W.GA (W.GA (W.lo rfl (W.iA rfl (W.jA (λZ=>divN (by decide)) (W.cG (by rfl) (W.la rfl (W.en rfl (W.bi (W.mP e1 (by rw [vY];exact aE h12 (by decide)) ?_)))))))))));rw [vY];refine W.jA (λZ=>modN Cu) (W.RE e1 (idx _) ho1 ?_);refine W.it (W.cG (by rfl) (⟨rfl,XL λh2 r2 p2 hl2=>W.GA (W.lo rfl (W.iA rfl (W.jA (λZ=>modN (by decide)) (W.RE hl2 ⟨z12,fB z12' (by decide)⟩ (by rw [bS,Ai];rfl) ?_))))⟩));refine i13 _ (YB oA) rfl (W.kD rfl (W.kD rfl (W.kD rfl (W.yI ?_))));have p3:Pre H0 (h2++ [O.tup [.int p,.int o,.str nm]]):=p1.trans (p2.trans (Pre.app _ _))
 revert p3;refine genI (h2++ [O.tup [V.int p,.int o,.str nm]]) ?_;intro h3 p3
 have X3:=X.pre p3;refine W.stC (W.sA (W.GA (W.lo rfl (W.iA rfl (W.jA (λZ=>modN (by decide)) (W.asN rfl ?_))))));obtain x12|n|hn|en:=I.nd_of hr;obtain x12|to|hto|eo:=I.nd_of hro;obtain x02|Ai'|hnpl:=wA hn;obtain x02|htm'|htpl:=wA hto;have Az:ndAt ns n.pQ=some n:=by rw [hnpl];exact hn
 have hrn:rwAt rs n.pQ=some r:=by rw [hnpl];exact hr
 have Bj:rwAt rs r.pQ=some r:=by rw [hrp];exact hr
 have hpar:r.par=n.par:=aU (·.2.1) en;have uZ:∀ p,(p=0\/∃ r,rwAt rs p=some r)->dep p<=13->MD rs 13 p:=λp h h2=>TR.climb 13 p h h2;have Br:∀ r∈rs,dep r.pQ<=13:=λr hr=>aE (TR.bound r hr) (aE h12 (by decide));have cpar:MD rs 13 n.par:=by
  obtain x02|u1|u2:=TR.up r (HA hr).1;have:=Br r (HA hr).1;rw [<-hpar];exact uZ _ u2 (eU (aE (bV u1.symm) this))
 have cp:MD rs 13 r.pQ:=uZ _ (.inr ⟨r,Bj⟩) (Br r (HA hr).1);have co:MD rs 13 o:=uZ _ (.inr ⟨ro,hro⟩) (by rw [<-hrop];exact Br ro (HA hro).1);have stay:∀ h,Pre h3 h->Q (.bool true) {h:=h,l:=L0}:=λh iZ=>q h hY ns rs (X3.pre iZ) I.later (Nxt.of_pre (p3.trans iZ) _);have next:∀ {h hY' ns' rs'},Wld h A R hY' ns' rs'->Inv hY' ns' rs' (t+1)->Nxt h3 (wC A R ns rs) h (wC A R ns' rs')->Q (.bool true) {h:=h,l:=L0}:=λ{h hY' ns' rs'} W I' N=>q h hY' ns' rs' W I' ((Nxt.of_pre p3 _).trans N)
 refine W.stC (W.sIf (W.xA rfl (W.lo rfl (W.iA rfl (W.jA (a:=decide (x % 6 < 2)) (λZ=>rfl) ?_)))));cases w1:decide (x % 6 < 2) with
 | true=>
  refine W.stC (W.pA (W.cG (by rfl) (W.la rfl (W.la rfl (W.la rfl (W.la rfl (W.en rfl ?_)))))));rw [<-hnpl];refine UL X3 Az hnz (pl9 hlen.2.1 ht) ?_ (bF h12 (by decide)) ?_ (I.link Az nm) (λh iZ Z=>stay h iZ) (λh z a X4 N4 ok1 tk1=>?_)
  ·exact bF (aE (I.kids_len Az (nk n Ai')) (hrl▸h12)) (by decide)
  ·cases qZ:rwAt rs (hY+1+1+1) with
   | none=>rfl
   | some b=>
    obtain x12|b'|hb'|u_:=I.nd_of qZ;obtain x02|h5|h6:=wA hb';exact aS h6.symm (lt3 (I.pl b' h5).2)
  ·refine next X4 (I.added ht Az hnmem ok1 ?_ z a) N4
   have hlk:=I.link Az nm;rw [tk1] at hlk;cases hlk2:n.kQ.lookup nm with
   | none=>rfl
   | some c=>rw [hlk2] at hlk;cases hlk
 | false=>
  refine W.stN (W.stC (W.sIf (W.xA rfl (W.lo rfl (W.iA rfl (W.jA (a:=decide (x % 6=2)) (λZ=>rfl) ?_))))));cases w2:decide (x % 6=2) with
  | true=>
   have z100:=fX z (show (100:Int)≠0 by decide);have z100':=fE z (show (0:Int) < 100 by decide);refine W.stC (W.pA (W.cG (by rfl) (W.lo rfl (W.lo rfl (W.lo rfl (W.GA (W.lo rfl (W.iA rfl (W.jA (λZ=>modN (by decide)) ⟨rfl,?_⟩)))))))));rw [<-hrp];obtain x02|c1|c2:=I.used ht Bj (many:=z % 100) ⟨z100,Int.le_of_lt_add_one z100'⟩ (I.climbN 13 _ cp);exact oO X3 Bj c1 λh X4 N4=>next X4 c2 N4
  | false=>
   refine W.stN (W.stC (W.sIf (W.xA rfl (W.lo rfl (W.iA rfl (W.jA (a:=decide (x % 6=3)) (λZ=>rfl) ?_))))));cases w3:decide (x % 6=3) with
   | true=>
    refine W.stC (W.pA (W.cG (by rfl) (W.la rfl (W.la rfl (W.la rfl (W.la rfl (W.la rfl (W.en rfl ?_))))))));rw [<-hnpl];have mv:=λ(h1:n.par≠0) (h2:isIn ns 13 o n.pQ=false) (h3:MA nm=true) (h4:to.kQ.lookup nm=none)=>I.moved ht nk Az hrn hto hnmem h3 h1 (I.climbN 13 _ co) h2 h4 (k1:=13) (k2:=13) (I.climbN 13 _ cpar) (I.climbN 13 _ co);refine VL (k:=13) (k1:=13) (k2:=13) X3 Az hrn hpar hto hnz (by decide) (I.climbN 13 _ co) co (I.inn 13 o n.pQ co) (I.link hto nm) (λh1 h2 h3 h4=>(mv h1 h2 h3 h4).1) (λh iZ=>stay h iZ) (λh1 h2 h3 h4 o' x0 t1 M h X4 N4=>?_);refine next X4 ((mv h1 h2 h3 ?_).2 o' x0 t1 M) N4
    have hlk:=I.link hto nm;rw [h4] at hlk;cases hlk2:to.kQ.lookup nm with
    | none=>rfl
    | some c=>rw [hlk2] at hlk;cases hlk
   | false=>
    refine W.stN (W.stC (W.pA (W.ZO (W.xA rfl (W.lo rfl (W.iA rfl (W.jA (a:=decide (x % 6=4)) (λZ=>rfl) ?_)))))));cases w4:decide (x % 6=4) with
    | true=>
     have z60:=fX z (show (60:Int)≠0 by decide);have z60':=fE z (show (0:Int) < 60 by decide);refine W.cG (by rfl) (W.lo rfl (W.lo rfl (W.lo rfl (W.GA (W.lo rfl (W.iA rfl (W.jA (λZ=>modN (by decide)) ⟨rfl,?_⟩)))))));rw [<-hrp];have hnr:ndAt ns r.pQ=some n:=by rw [hrp];exact hn
     obtain x03|c0|c1|c2:=I.reserved ht Bj hnr (many:=z % 60) ⟨z60,bD (eS z60') (by decide)⟩ (I.climbN 13 _ cpar);exact sI X3 Bj hnr c0 c1 λh X4 N4=>next X4 c2 N4
    | false=>
     refine W.cG (by rfl) (W.la rfl (W.la rfl (W.la rfl (W.en rfl ?_))));rw [<-hnpl];have dr:=λ(h1:n.par≠0) (h2:n.kQ= [])=>I.dropped ht nk Az hrn h1 h2 (k1:=13) (I.climbN 13 _ cpar);refine JJ (k1:=13) X3 Az hrn hpar (I.emp Az) (λh1 h2=>(dr h1 h2).1) (λh iZ=>stay h iZ) (λh1 h2 o' x0 M h X4 N4=>?_);exact next X4 ((dr h1 h2).2 o' x0 M) N4
end
end
section
theorem GG{g:α->V}(h:∀ a,rC (g a) (g a)=some true):∀ l:List α,PB (l.map g) (l.map g)=some true:=by
 intro l
 induction l with
 | nil=>exact rfl
 | cons x r ih=>
  show (match rC (g x) (g x),PB (r.map g) (r.map g) with | some a,some b=>some (a && b) | _,_=>none)=some true;rw [h,ih];rfl
theorem mE(l:List Int):PB (l.map V.int) (l.map V.int)=some true:=GG (g:=V.int) (λa=>aU some (aF rfl)) l
theorem CK(l:List Str):PB (l.map V.str) (l.map V.str)=some true:=GG (g:=V.str) (λa=>aU some (aF rfl)) l
section
variable {P:Prg} {s:S} {J:Ev}
theorem W.ZI{x y:Nat}{u:List V}{Q:Bool->S->Prop}(hx:s.h[x]? =some (.list u))(hy:s.h[y]? =some (.list u))(he:PB u u=some true)(q:Q false s):W P (λZ=>cmpM .NotEq (.ref x) (.ref y)) Q E s:=by
 refine W.bind (W.zA hx (W.zA hy ?_));refine W.eq (m:=λZ=>DX (some true)) (W.VD rfl (W.pure q)) λZ=>?_
 (try dsimp only)
 rw [aJ (λh=>h rfl),he]
theorem W.qP{H:List O}{L:List (Str×V)}{us:List V}(hn:H[n]? =some (.list us))(hz:us.length < 64)(hv:xD us=some vs)(q:Q (.ref H.length) ⟨H++ [.list vs],L⟩):W P (λZ=>lB "sorted" [.ref n]) Q E ⟨H,L⟩:=by
 refine W.zA hn (W.AA (aF hz) ?_);refine W.eq (m:=λZ=>FX (.list vs) >>=λn=>Pure.pure (V.ref n)) (W.bind (W.alloc (W.pure q))) λZ=>?_;rw [hv]
theorem W.UU{x y:Nat}{u:List V}{Q:Bool->S->Prop}(hx:s.h[x]? =some (.tup u))(hy:s.h[y]? =some (.tup u))(he:PB u u=some true)(q:Q false s):W P (λZ=>cmpM .NotEq (.ref x) (.ref y)) Q E s:=
 W.bind (W.zA hx (W.zA hy (W.VD he (W.pure q))))
end
theorem iL:∀ l:List Str,(∀ p∈l,p.length<=12)->(l.map (·.length)).sum<=12*l.length:=by
 intro l
 induction l with
 | nil=>intro _;exact aY _
 | cons a r ih=>
  intro h;have h1:=h a (.head _);have h2:=ih λp hp=>h p (.tail _ hp);rw [bJ,gA,fN,Nat.mul_add_one,fK];exact dM h2 h1
section
variable {A:Adr} {R:Nat} {hY:Int} {t:Nat}
theorem DQ(X:Wld H0 A R hY ns rs)(I:Inv hY ns rs t)(ht:t<=12)(q:∀ h,Pre H0 h->Q (.bool true) {h:=h,l:=L0}):
  W (pg w) (λF=>F.call (.glob 513) [.ref A.b,.ref R,.int 4] (d+30)) Q E ⟨H0,L0⟩:=by
 refine W.fnE (P:=pg w) (d:=d+29) rfl ?_;intro m h1 hm p1 hc P J J' E' L';have c1:h1[m]? =some (.cell (some (.ref R))):=hc 0 _ rfl;have c2:h1[m+1]? =some (.cell none):=hc 1 _ rfl;clear hc;obtain x21|nt|zp|Rp:=X.rep;have nk:∀ n∈ns,(n.kQ.map (·.1)).Nodup:=λn hn=>(Rp.kok n hn).2;obtain x11|dep|T:=I.dep;have TR:=I.tree T;have hrl:=I.rlen;have hlen:=I.len;obtain x12|r4|hr4|hr4p:=I.root.1;have zZ:rwAt rs 4=some r4:=by rw [<-hr4p];exact yA I.rnd hr4
 obtain x12|n4|hn4|u_:=I.nd_of zZ;have deep:∀ (k:Nat) (p:Int),13<=k->(∃ r,rwAt rs p=some r)->Deep rs k p:=λk p hk h=>by
  obtain x11|r|hr:=h;refine TR.deep k p ⟨r,hr⟩ ?_;obtain x02|h1|h2:=HA hr;have:=(TR.up r h1).1;rw [h2] at this;exact aE (bP (hrl▸aE hlen.1 (bP ht))) (aE (dM hk (this▸cH 1 _)) (bV (fK ..)))
 have Br:∀ {p:Int} {r:Rw},rwAt rs p=some r->dep p<=13:=λ{p r} hr=>by
  obtain x02|h1|h2:=HA hr;have:=TR.bound r h1;rw [h2] at this;exact aE this (hrl▸aE hlen.1 (bP ht))
 have hb:∀ j,∀ r∈rs,(allR rs j r.pQ).length<=1000:=λj r hr=>aE (TR.all_len I.rnd j hr) (hrl▸aE hlen.1 (aE (bP ht) (by decide)));have hal:(allR rs 13 4).length<=1000:=by rw [<-hr4p];exact hb 13 r4 hr4
 obtain x02|df1|df2:=I.dfs_all nk 13 4 n4 (deep 13 4 (aY _) ⟨r4,zZ⟩) hn4 0 [] (by simpa using hal);have df1:dfs ns ((allR rs 13 4).length+0) [4]=allR rs 13 4:=by rw [df1];exact eW _
 refine W.stC (W.sIf (W.oF (W.qC (W.xA rfl (W.cG (by rfl) (W.la rfl (W.en rfl (zG (Rp.on p1 _) λh2 p2=>W.lo rfl (W.jA (a:=false) (λZ=>rfl) ?_)))))))));have Ba:=p1.trans p2;refine W.qC (W.xA rfl (W.cG (by rfl) (W.la rfl (W.en rfl (IN (Rp.on Ba _) (df2 rfl) hal λh3 r3 p3 hr3=>?_)))));rw [df1] at hr3;have p13:=Ba.trans p3;refine W.cG (by rfl) (W.li (p3.get (p2.get c1)) (W.la rfl (W.en rfl ?_)));refine JQ (d:=d+16) hb 13 (X.rows.pre p13) (i12 r4 hr4 hr4p) (deep 13 4 (aY _) ⟨r4,zZ⟩) λh4 r4' p4 hr4'=>W.ZI (p4.get hr3) hr4' (mE _) (W.DG (W.stN ?_));have p14:=p13.trans p4;have d1:=p4.get (p3.get (p2.get c1));have d2:=p4.get (p3.get (p2.get c2));obtain x11|kR|eR:=X.rows.dict;refine W.stC (W.oH rfl (W.cI d1 (W.XI (p14.get eR) (pC rs) ?_)));have hRl:R < H0.length:=CA eR;have l14:H0.length<=h4.length:=p14.len;have ld1:=CA d1;have ld2:=CA d2;have e0:(UA rs).length=rs.length:=by exact aO _
 refine W.KM (vs:=(UA rs).map (·.1)) (it:=h4.length) (λi=> .itD R i (UA rs).length kR) (I:=λi s'=>Pre H0 s'.h/\s'.h[h4.length]? =some (.itD R i (UA rs).length kR)/\s'.h[m]? =some (.cell (some (.ref R)))/\(∃ c,s'.h[m+1]? =some (.cell c))/\has s'.l "base" (.ref A.b)) ?_ ?_ ?_ ((UA rs).map (·.1)).length 0 _ (cW _) ?_
 ·intro i s' Q2 ii Ar q1 q2;obtain x05|i1|i2|i3|i4|i5:=ii;refine W.nH i2 (i1.get eR) (pC rs) (λe he=>q1 _ (by rw [bS,he];rfl)) λhl=>q2 (by rw [aO];exact hl)
 ·intro i v s' ii hv;obtain x05|i1|i2|i3|Dn|i5:=ii;obtain x11|c0|i4:=Dn;have Cn:∃ r∈rs,v= .int r.pQ:=by
   have:=cT hv;obtain x12|e|he|rfl:=aL.mp this;obtain x12|r|hr|rfl:=aL.mp he;exact i12 r hr rfl
  obtain x12|r|hr|rfl:=Cn;refine W.jF (W.asC rfl rfl (qA (aV ld2) i4) ?_);have j1:Pre H0 ((s'.h.set h4.length (.itD R (i+1) (UA rs).length kR)).set (m+1) (.cell (some (.int r.pQ)))):=(i1.set l14).set (qm hm);have j2:((s'.h.set h4.length (.itD R (i+1) (UA rs).length kR)).set (m+1) (.cell (some (.int r.pQ))))[h4.length]? =some (.itD R (i+1) (UA rs).length kR):=qA (bG ld2) (RA i2);have j3:((s'.h.set h4.length (.itD R (i+1) (UA rs).length kR)).set (m+1) (.cell (some (.int r.pQ))))[m]? =some (.cell (some (.ref R))):=qA (cK m) (qA (aV ld1) i3);have j4:((s'.h.set h4.length (.itD R (i+1) (UA rs).length kR)).set (m+1) (.cell (some (.int r.pQ))))[m+1]? =some (.cell (some (.int r.pQ))):=RA (qA (aV ld2) i4);refine W.heap (h':=(s'.h.set h4.length (.itD R (i+1) (UA rs).length kR)).set (m+1) (.cell (some (.int r.pQ)))) rfl ?_
  revert j1 j2 j3 j4;refine genI ((s'.h.set h4.length (.itD R (i+1) (UA rs).length kR)).set (m+1) (.cell (some (.int r.pQ)))) ?_;intro h5 j1 j2 j3 j4
  have Dd:=yA I.rnd hr;obtain x12|n|hn|en:=I.nd_of Dd;obtain x02|Ai|hnp:=wA hn;have Ca:=Br Dd;have De:=TR.climb 13 r.pQ (.inr ⟨r,Dd⟩) Ca;obtain x04|pa1|pa2|pa3|pa4:=I.path TR 13 r.pQ r Dd Ca [];rw [eW] at pa1;have Db:=iL (JB rs 13 r.pQ) λx hx=>(CD x (pa3 x hx).1 (pa3 x hx).2).2.2.1;have hj:((JB rs 13 r.pQ).map (·.length)).sum+(JB rs 13 r.pQ).length<=1048576:=by
   have h13:(JB rs 13 r.pQ).length<=13:=by assumption
   exact aE (dM (aE Db (cZ 12 h13)) h13) (by decide)
  have Dc:(Txt.join "/" (JB rs 13 r.pQ)).length<=90000:=by
   rw [TF];have:=StrLaws.join_length_le ⟨#[47]⟩ (JB rs 13 r.pQ);have e1:(⟨#[47]⟩:Str).length=1:=rfl;rw [e1] at this;have h13:(JB rs 13 r.pQ).length<=13:=by assumption
   exact aE this (aE (dM (aE Db (cZ 12 h13)) (Nat.mul_le_mul_right 1 h13)) (by decide))
  refine W.stC (W.WF (names:= ["info","path"]) rfl rfl (W.TB rfl rfl (W.cG (by rfl) (W.la i5 (W.li j4 (W.en rfl ?_))))));refine (Rp.on j1 _).load hn λh6 i6 di6 p6 Z Z An=>W.cG (by rfl) (W.li (p6.get j3) (W.li (p6.get j4) (W.en rfl ?_)));refine LI (X.rows.pre (j1.trans p6)) De (by decide) hj λh7 p7=>i13 _ (YB oA) rfl (W.kD rfl (W.kD rfl (W.yI ?_)));have g7:Pre h5 (h7++ [O.tup [.ref i6,.str (Txt.join "/" (JB rs 13 r.pQ))]]):=p6.trans (p7.trans (Pre.app _ _));have Bo:=(An.pre p7).pre (Pre.app h7 [O.tup [.ref i6,.str (Txt.join "/" (JB rs 13 r.pQ))]])
  revert g7 Bo;refine genI (h7++ [O.tup [V.ref i6,.str (Txt.join "/" (JB rs 13 r.pQ))]]) ?_;intro h8 g7 Bo
  refine W.stC (W.sA (W.TB rfl rfl (W.PA (X.rows.pre (j1.trans g7)) Dd (j:=2) ⟨by decide,by decide⟩ rfl (W.cI (g7.get j3) (i03 rfl rfl (W.cI (g7.get j4) (i03 rfl rfl (W.iA rfl (i03 rfl rfl ?_)))))))));refine W.cG (by rfl) (W.li (g7.get j3) (W.li (g7.get j4) (W.en rfl ?_)));refine YU (d:=d+2) (k:=13) (X.rows.pre (j1.trans g7)) (λc hc Z=>deep 13 c.pQ (aY _) ⟨c,yA I.rnd hc⟩) λh9 p9=>?_;have g9:=g7.trans p9;refine W.PA (X.rows.pre (j1.trans g9)) Dd (j:=3) ⟨by decide,by decide⟩ rfl (W.cI (g9.get j3) (i03 rfl rfl (W.cI (g9.get j4) (i03 rfl rfl (W.iA rfl (i03 rfl rfl ?_))))));refine W.cG (by rfl) (W.li (g9.get j3) (W.li (g9.get j4) (W.en rfl ?_)));refine tR (d:=d+3) 13 (X.rows.pre (j1.trans g9)) (deep 13 r.pQ (aY _) ⟨r,Dd⟩) Dd λh10 p10=>W.asN rfl ?_;have eb:PM rs 13 r.pQ=n.bel:=I.below (deep 14 r.pQ (by decide) ⟨r,Dd⟩) hn;have es:ZB rs 13 r.pQ=n.share:=I.share 13 r.pQ n (deep 13 r.pQ (aY _) ⟨r,Dd⟩) hn;have eu:r.used=n.used:=aU (·.2.2.1) en;have er:r.res=n.res:=aU (·.2.2.2) en;rw [eb,es,eu,er];have g11:Pre h5 (h10++ [O.tup [.int n.used,.int n.bel,.int n.res,.int n.share]]):=g9.trans (p10.trans (Pre.app _ _));have vZ:=((Bo.pre p9).pre p10).pre (Pre.app h10 [O.tup [.int n.used,.int n.bel,.int n.res,.int n.share]]);have yY:(h10++ [O.tup [V.int n.used,.int n.bel,.int n.res,.int n.share]])[h10.length]? =some (.tup [V.int n.used,.int n.bel,.int n.res,.int n.share]):=oA
  revert yY;refine genE (h10.length) ?_;intro m10 hl10 yY
  try dsimp only
  revert g11 vZ yY;refine genI (h10++ [O.tup [V.int n.used,.int n.bel,.int n.res,.int n.share]]) ?_;intro h11 g11 vZ yY
  obtain x11|kI|own:=vZ.own;refine W.stC (W.sIf (W.xA rfl (W.TB rfl rfl ?_)));iterate 3 (refine W.LA rfl (W.lo (vA (by decide) TA) (W.rA vZ.inst own (gd _ (by decide)) rfl rfl ?_)))
  refine W.cG (by rfl) (W.la (vA (by decide) TA) (W.en rfl (iC vZ (W.lo TA ?_))));refine W.UU oA (lA yY) (by have:=mE [n.used,n.bel,n.res,n.share];exact this) (W.stN ?_);have g12:Pre h5 (h11++ [O.tup [.int n.used,.int n.bel,.int n.res,.int n.share]]):=g11.trans (Pre.app _ _)
  revert g12;refine genI (h11++ [O.tup [V.int n.used,.int n.bel,.int n.res,.int n.share]]) ?_;intro h12 g12
  refine W.stC (W.sIf (W.oF (W.qC (W.xA rfl (W.cG (by rfl) (W.lo (vA (by decide) (vA (by decide) (vA (by decide) i5))) (W.li (g12.get j4) (W.en rfl ?_))))))));refine WQ (Rp.on (j1.trans g12) _) I.namedAll hn (k:=13) (I.climbN 13 _ De) (by rw [pa1];exact hj) (by decide) λh13 p13'=>?_;rw [pa1];refine W.lo (vA (by decide) (vA (by decide) TA)) (W.jA (a:=false) (λZ=>?_) ?_)
  ·show (DX (some (decide (_=_))) >>=λb=>Pure.pure (!b))=_;rw [aF rfl];rfl
  have g13:=g12.trans p13';refine W.qC (W.xA rfl (W.cG (by rfl) (W.lo (vA (by decide) (vA (by decide) (vA (by decide) i5))) (W.lo (vA (by decide) (vA (by decide) TA)) ⟨rfl,?_⟩))));have hfp:VC ns 4 (wB (Txt.join "/" (JB rs 13 r.pQ)))=some r.pQ:=by rw [zO pa3];exact pa2
  refine mG (Rp.on (j1.trans g13) _) (I.closed nk) hn4 Dc (λh14 c p14' hc=>?_) (λh14 p14' hc=>by rw [hfp] at hc;cases hc);rw [hfp] at hc;cases hc;have Bw:=g13.trans p14';refine W.cI (Bw.get j4) (W.jA (a:=!decide (r.pQ=r.pQ)) (λZ=>rfl) ?_);rw [aF rfl];refine W.DG (W.stN ?_);refine W.stC (W.sIf (W.xA rfl (W.cG (by rfl) (W.lo (vA (by decide) (vA (by decide) (vA (by decide) i5))) (W.li (Bw.get j4) (W.en rfl ?_))))));refine sF (Rp.on (j1.trans Bw) _) hn λh15 r15 Bn hr15 hl15=>W.cG (by rfl) (W.WB (cells:=_) (λc=>decide (c.par=r.pQ)) (λc=> .str c.name) rfl rfl rfl (X.rows.pre (j1.trans (Bw.trans Bn))) (W.cI (Bn.get (Bw.get j3)) ⟨rfl,rfl⟩) ?_ ?_ ?_)
  ·intro c hc h lo hp hlo;refine W.ED (W.xA rfl (W.PA ((X.rows.pre (j1.trans (Bw.trans Bn))).pre hp) (yA X.rows.pnd hc) (j:=0) ⟨by decide,by decide⟩ rfl (W.cI (hp.get (Bn.get (Bw.get j3))) (i03 rfl rfl (W.lo hlo (i03 rfl rfl (W.iA rfl (i03 rfl rfl (W.cI (hp.get (Bn.get (Bw.get j4))) ?_)))))))));exact W.jA (a:=decide (c.par=r.pQ)) (λZ=>rfl) (i03 rfl (Pre.refl _) rfl)
  ·intro c hc hg h lo hp hlo;exact W.PA ((X.rows.pre (j1.trans (Bw.trans Bn))).pre hp) (yA X.rows.pnd hc) (j:=1) ⟨by decide,by decide⟩ rfl (W.cI (hp.get (Bn.get (Bw.get j3))) (i03 rfl rfl (W.lo hlo (i03 rfl rfl (W.iA rfl (i05 rfl rfl rfl (Pre.refl _) rfl))))))
  ·intro h16 acc p16 ha jY;have hnk:=I.names_eq hn (nk n Ai);have hsv:xD ((rs.filter λc=>decide (c.par=r.pQ)).map λc=>V.str c.name)=some ((BA n).map V.str):=by
    have e:=PF ((rs.filter λc=>decide (c.par=r.pQ)).map (·.name));rw [aP] at e;rw [hnk];exact e
   refine ⟨rfl,W.bi (W.qP jY (by
    rw [aO];have:=dU (λc:Rw=>decide (c.par=r.pQ)) rs;exact bF this (bF (hrl▸aE hlen.1 (bP ht)) (by decide))) hsv ?_)⟩
   refine W.ZI (lA (p16.get hl15)) oA (CK _) (W.stN (W.stN ?_));have g16:Pre h5 (h16++ [O.list ((BA n).map V.str)]):=Bw.trans (Bn.trans (p16.trans (Pre.app _ _)));exact i05 (j1.trans g16) (g16.get j2) (g16.get j3) ⟨_,g16.get j4⟩ (vA (by decide) (vA (by decide) (vA (by decide) i5)))
 ·intro s' ii;obtain x05|i1|i2|i3|i4|i5:=ii;exact W.stC (W.pA (W.iA rfl (q _ (i1.set l14))))
 ·exact i05 (p14.trans (Pre.app _ _)) oA (lA d1) ⟨_,lA d2⟩ rfl
end
end
section
theorem Wld.keep{F:List Nat}{h':List O}{A:Adr}{R:Nat}{hY:Int}(X:Wld h A R hY ns rs)(k:Keep F h h')(hF:∀ i∈wC A R ns rs,i∉F):Wld h' A R hY ns rs:=
 ⟨by obtain x21|n|z|r:=X.rep;exact i21 n z (r.keepF k λi hi=>hF i (cA _ hi)),X.rows.keep k λi hi=>hF i (bO _ hi),X.apart⟩
theorem inv0(z a:Nat):Inv 4 [JF z] [⟨4,0,"",0,0,a⟩] 0 where
 key:=rfl
 pnd:=by simp
 pl:=λn hn=>by rw [aH.mp hn];exact ⟨eK 4,eK 4⟩
 kQ:=λp n hn x c=>by
  obtain x02|h1|h2:=wA hn;rw [aH.mp h1] at h2 ⊢;constructor
  ·intro h;cases h
  ·intro ii;obtain x13|r|hr|h3|u_:=ii;rw [aH.mp hr] at h3;have h2:(4:Int)=p:=h2;have h3:(0:Int)=p:=h3;exact aS (h2.trans h3.symm) (by decide)
 names:=λr hr hz=>by rw [aH.mp hr] at hz;exact aS rfl hz
 root:=⟨i12 _ (.head _) rfl,λr hr=>by rw [aH.mp hr];exact ⟨λZ=>rfl,λZ=>rfl⟩⟩
 dep:=⟨λq=>if q=4 then 1 else 0,rfl,λe he=>by
  have:e=(4,0):=by simpa [JF] using he
  subst this;exact ⟨rfl,.inl rfl⟩⟩
 sums:=λn hn=>by rw [aH.mp hn];rfl
 bnd:=λn hn=>by rw [aH.mp hn];exact i03 ⟨eK 0,(by decide:(0:Int)<=99)⟩ (eK 0) (by decide:(0:Int)<=99)
 len:=i03 (aY 1) (by decide:(4:Int)<=4+3*((0:Nat):Int)) (eK 4)
section
variable {P:Prg} {s:S} {J:Ev}
theorem W.MR{H:List O}{L:List (Str×V)}(hn:H[n]? =some (.list vs))(hz:vs.length<=100000)(q:Q (.ref H.length) ⟨H++ [.list vs],L⟩):W P (λZ=>ZD "list" [.ref n]) Q E ⟨H,L⟩:=
 W.bind (W.zA hn (W.pure (W.AA (aF hz) (W.bind (W.alloc (W.pure q))))))
theorem W.PR{H:List O}{L:List (Str×V)}{b:Int}(q:Q (.ref H.length) ⟨H++ [.rng 0 b 1],L⟩):W P (λZ=>ZD "range" [.int b]) Q E ⟨H,L⟩:=W.bind (W.alloc (W.pure q))
end
theorem FV:∀ N:Fin 13,Builtin.Range.small 0 (N.val:Int) 1=true/\Builtin.Range.rangeSize 0 (N.val:Int) 1=(N.val:Int):=by decide+kernel
noncomputable abbrev A0:Adr:=⟨5,4,6,7,8⟩
section
variable {hY:Int} {t:Nat}
theorem Inv.bad(I:Inv hY ns rs t){p:Int}{n:Nd}(hn:ndAt ns p=some n){y:Str}(hy:¬ (y∈lawNames/\MA y=true)):n.kQ.lookup y=none:=by
 cases h:n.kQ.lookup y with
 | none=>rfl
 | some c=>
  obtain x14|r|hr|h1|h2|u_:=(I.kQ p n hn y c).mp h;have:=I.names r hr (h1▸I.par_nz hn);rw [h2] at this;exact aS this hy
theorem XN:∀ (xs:List Str) (a b:Int) (y:Str),VC ns a xs=some b->VC ns a (xs++ [y])=VC ns b [y]:=by
 intro xs
 induction xs with
 | nil=>intro a b y h;cases h;rfl
 | cons x s ih=>
  intro a b y h;have h':(match (ndAt ns a).bind λn=>n.kQ.lookup x with | some c=>VC ns c s | none=>none)=some b:=h;show (match (ndAt ns a).bind λn=>n.kQ.lookup x with | some c=>VC ns c (s++ [y]) | none=>none)=_;cases hb:(ndAt ns a).bind λn=>n.kQ.lookup x with
  | none=>rw [hb] at h';cases h'
  | some c=>rw [hb] at h';exact ih c b y h'
theorem Inv.nowhere(I:Inv hY ns rs t){l:List Str}{p:Int}{n n4:Nd}(h4:ndAt ns 4=some n4)(hn:ndAt ns p=some n)(hf:∀ x∈l,x∈lawNames/\MA x=true)(hp:VC ns 4 l=some p):VC ns 4 (wB (Txt.join "/" l++"/nothing"))=none:=by
 rw [TJ hf];have b1:¬ (("nothing" :Str)∈lawNames/\MA "nothing"=true):=by decide+kernel
 have b2:¬ (("" :Str)∈lawNames/\MA ""=true):=by decide+kernel
 by_cases hl:l= []
 ·rw [aN hl,NC h4,I.bad h4 b2]
 ·rw [aJ hl,XN l 4 p _ hp,NC hn,I.bad hn b1]
theorem Inv.noab(I:Inv hY ns rs t)(nk:∀ n∈ns,(n.kQ.map (·.1)).Nodup){n4:Nd}(h4:ndAt ns 4=some n4):VC ns 4 (wB "a//b")=none:=by
 have b2:¬ (("" :Str)∈lawNames/\MA ""=true):=by decide+kernel
 rw [iT,NC h4];cases h:n4.kQ.lookup ("a" :Str) with
 | none=>rfl
 | some c=>
  obtain x11|m|hm:=(I.closed nk).kid (wA h4).1 h
  (try dsimp only)
  rw [NC hm,I.bad hm b2]
end
theorem uV{xs:List Int}(hx:xs.length<=63){fo:Obj}{fd:FuncData}{s0:Stmt}{iY:List Stmt}(hK:(Internal.kx.heap_1 w.params).lookup 518=some fo)(hd:fo.data= .func fd)(hb:fd.body= .stmts (s0::iY)):
  W (pg w) (λF=>tB (pg w).K F iY {scope:=fd.scope,cells:=vK,d:=60,lq:=lqL,stm:=true}) (λf Z=>f= .ret (.bool true)) (λZ Z=>False) ⟨[.list (xs.map V.int),.cell none,.cell none,.cell none],[("script",.ref 0)]⟩:=by
 have e:(Internal.kx.heap_1 w.params).lookup 518=some _:=rfl;rw [e] at hK;cases hK;cases hd;cases hb
 (try dsimp only)
 refine letIn (pg w) ?_;intro P;refine W.stC (W.sA (W.cG (by rfl) (⟨rfl,kW rfl (λZ=>rfl) λk1 k2=>W.asC (w:=none) rfl rfl rfl ?_⟩)));refine W.heap (h':= [.list (xs.map V.int),.cell (some (.ref 5)),.cell none,.cell none,.dict (ownD 1 6 7) k1,.inst 226 4,.dict [] 0,.dict [(.int 1,.ref 8)] k2,.dict [] 0]) rfl ?_;refine genE ([.list (xs.map V.int),.cell (some (.ref 5)),.cell none,.cell none,.dict (ownD 1 6 7) k1,.inst 226 4,.dict [] 0,.dict [(.int 1,.ref 8)] k2,.dict [] 0]:List O) ?_;intro h1 e1;have F:Base ⟨h1,[]⟩ 5 4 6 7 1 [] [(.int 1,.ref 8)]/\h1[0]? =some (.list (xs.map V.int))/\h1[1]? =some (.cell (some (.ref 5)))/\h1[2]? =some (.cell none)/\h1[3]? =some (.cell none)/\h1[8]? =some (.dict [] 0):=by
  subst e1;exact i06 ({inst:=rfl,own:=⟨k1,rfl⟩,nts:=⟨0,rfl⟩,zps:=⟨k2,rfl⟩,nk:=⟨rfl,by exact dA _⟩,zk:=⟨rfl,by exact cH ..⟩,ne:=by decide}) rfl rfl rfl rfl rfl
 clear e1;obtain x06|B|f0|f1|f2|f3|fz:=F;refine W.stC (W.sIf (W.xA rfl (W.it (W.cG (by rfl) (W.yD (cells:=_) rfl rfl λhL pL eL=>⟨rfl,?_⟩)))));refine zC (d:=59) eL (Qv:=λZ Z=>False) (Ec:=λC h=>C=51/\Pre hL h) (λlo=>?_) (λv h hq=>hq.elim) (λC h ⟨hC,hp⟩=>?_)
 ·refine W.lam eL rfl (W.cG (by rfl) (W.lf (pL.get f1) (W.en rfl ?_)));exact vM (A:=A0) (B.on pL _) (pL.get fz) λh hp=>⟨rfl,hp⟩
 subst hC;refine i12 _ rfl (W.iA rfl (W.VF oA ⟨by decide,by decide⟩ rfl (W.iA rfl (W.jA (a:=!decide (("Missing" :Str)="Missing")) (λZ=>rfl) ?_))));rw [aF rfl];refine W.stN ?_;have p2:Pre h1 (h++ [O.tup [.str "Missing",.int 0]]):=pL.trans (hp.trans (Pre.app _ _))
 revert p2;refine genI (h++ [O.tup [V.str "Missing",.int 0]]) ?_;intro h2 p2
 refine W.stC (W.sA (W.cG (by rfl) (W.li (p2.get f1) (W.en rfl (ZL (A:=A0) (B.on p2 _) (p2.get fz) (by decide) λh3 z nt zp R3 k3 hz=>W.asN rfl ?_)))));have hz:h2.length<=z:=hz;have g0:=k3.2 _ _ (p2.get f0) (λh=>nomatch h);have g1:=k3.2 _ _ (p2.get f1) (λh=>nomatch h);have g2:=k3.2 _ _ (p2.get f2) (λh=>nomatch h);have g3:=k3.2 _ _ (p2.get f3) (λh=>nomatch h);refine W.stC (W.sA (W.PU (W.lo rfl (W.list rfl rfl (W.iA rfl (W.iA rfl (W.iA rfl (W.iA rfl ?_))))))));have n1:(h3++ [O.dict [] 0]++ [O.list [.int 0,.str "",.int 0,.int 0]])[h3.length]? =some (.dict [] 0):=lA oA;refine W.hW n1 rfl ?_;have l3:=CA g3;have l5:=R3.len;refine W.asC (w:=none) rfl rfl (qA (show h3.length≠3 from aV l3) (lA (lA g3))) ?_;have e4:(h3++ [O.dict [] 0]).length=h3.length+1:=by exact bA
 (try dsimp only)
 rw [e4]
 revert n1 l3 l5;refine genE (h3.length) ?_;intro m hm n1 l3 l5
 have e5:((h3++ [O.dict [] 0]++ [O.list [.int 0,.str "",.int 0,.int 0]]).set m (KX (.int 4) (.ref (m+1)) [] 0))=h3++ [O.dict [(.int 4,.ref (m+1))] 1,.list [.int 0,.str "",.int 0,.int 0]]:=by
  subst hm;rw [show KX (.int 4) (.ref (h3.length+1)) [] 0=O.dict [(.int 4,.ref (h3.length+1))] 1 from rfl];simp
 rw [e5];have l8:=CA (p2.get fz);have hJ0:∀ i∈wC A0 m [JF z] [⟨4,0,"",0,0,m+1⟩],i≠1/\i≠2/\i≠3:=λi hi=>by
  have hi:i∈ [5,4,6,7,8,z,m,m+1]:=hi;exact ne3 (mc (by decide) (mc (by decide) (mc (by decide) (mc (by decide) (mc (by decide) (mc (aT (bB (by decide) l8) hz) (mc l3 (mc (bW l3) mn))))))) i hi)
 refine genE ((h3++ [O.dict [(.int 4,.ref (m+1))] 1,O.list [.int 0,.str "",.int 0,.int 0]]).set 3 (.cell (some (.ref m)))) ?_;intro h4 e6;have F:Wld h4 A0 m 4 [JF z] [⟨4,0,"",0,0,m+1⟩]/\h4.length=m+2/\h4[0]? =some (.list (xs.map V.int))/\h4[1]? =some (.cell (some (.ref 5)))/\h4[2]? =some (.cell none)/\h4[3]? =some (.cell (some (.ref m))):=by
  subst e6;refine i06 ?_ (by subst hm;simp) (qA (by decide) (lA g0)) (qA (by decide) (lA g1)) (qA (by decide) (lA g2)) (RA (lA g3));have k4:Keep [3] (h3++ [O.dict [(.int 4,.ref (m+1))] 1,.list [.int 0,.str "",.int 0,.int 0]]) ((h3++ [O.dict [(.int 4,.ref (m+1))] 1,.list [.int 0,.str "",.int 0,.int 0]]).set 3 (.cell (some (.ref m)))):=(Keep.refl _ _).set (.inl (.head _));have hz3:3∉foot A0 [JF z]:=λ(h:3∈ [5,4,6,7,8,z])=>
   dO 3 (mc (p:=λx=>3 < x) (by decide) (mc (by decide) (mc (by decide) (mc (by decide) (mc (by decide) (mc (aT (bB (by decide) l8) hz) mn))))) 3 h)
  refine ⟨i21 nt zp ((R3.on (Pre.app _ _) []).keepF k4 λi hi Au=>?_),?_,λi hi Au=>?_⟩
  ·rw [aH.mp Au] at hi;exact hz3 hi
  ·have hr:Rows (h3++ [O.dict [(.int 4,.ref (m+1))] 1,.list [.int 0,.str "",.int 0,.int 0]]) m [⟨4,0,"",0,0,m+1⟩]:=
    {dict:=⟨1,by subst hm;exact gx (k:=0) rfl⟩,rows:=λr hr=>by rw [aH.mp hr];subst hm;simp [Rw.lst],nd:=by simp,pnd:=by simp,len:=(by decide:1<=40)}
   refine hr.keep k4 λi hi Au=>?_;rw [aH.mp Au] at hi;exact dO 3 (mc (p:=λx=>3 < x) l3 (mc (bW l3) mn) 3 hi)
  ·exact cB.mpr (mc (p:=λx=>m<=x) (aY m) (mc (cE m) mn) i hi) (l5 i Au)
 clear e6;obtain x06|X0|hl4|q0|q1|q2|q3:=F;refine W.stC (W.sA (W.GA (W.cG (by rfl) (W.XF (W.lo rfl (W.ND (W.EG (W.iA rfl (W.ND (W.jK (ws:=(xs.map V.int).take 33) rfl rfl rfl q0 ⟨by decide,by rw [aO];exact aE hx (by decide)⟩ (YQ (k:=33)) ⟨rfl,W.ty ?_⟩))))))))));refine W.MR oA (by rw [List.length_take];exact aE (gW ..) (by decide)) (W.list rfl rfl (W.iA rfl (W.iA rfl (W.iA rfl ?_))));refine W.UI (u:=(xs.map V.int).take 33) (v:= [.int 0,.int 0,.int 0]) (lA oA) oA (by rw [List.length_take];exact aE (cQ (gW ..) 3) (by decide)) (W.asN rfl ?_);have eD:(xs.map V.int).take 33++ [.int 0,.int 0,.int 0]=(xs.take 33++ [0,0,0]).map V.int:=by rw [cJ,List.map_take];rfl
 rw [eD];have lD:(xs.take 33++ [0,0,0]).length=min 33 xs.length+3:=by rw [bA,List.length_take];rfl
 revert lD;refine genI (xs.take 33++ [(0:Int),0,0]) ?_;intro ds lD
 refine genE ((h4++ [O.list ((xs.map V.int).take 33)]++ [O.list ((xs.map V.int).take 33)]++ [O.list [.int 0,.int 0,.int 0]]).length) ?_;intro dg e7;try dsimp only
 refine genE (h4++ [O.list ((xs.map V.int).take 33)]++ [O.list ((xs.map V.int).take 33)]++ [O.list [.int 0,.int 0,.int 0]]++ [O.list (ds.map V.int)]) ?_;intro h5 e8;have F:Pre h4 h5/\h5[dg]? =some (.list (ds.map V.int))/\h4.length<=dg:=by
  subst e7 e8;exact ⟨(((Pre.app _ _).trans (Pre.app _ _)).trans (Pre.app _ _)).trans (Pre.app _ _),oA,by simp⟩
 clear e7 e8;obtain x03|p5|Dk|Dl:=F;have hlD:(ds.map V.int).length<=100000:=by rw [aO,lD];exact aE (cQ (gW ..) 3) (by decide)
 refine W.stC (W.oH rfl (W.cG (by rfl) (W.GA (W.cG (by rfl) (W.la rfl (W.en rfl (W.bi (W.mP Dk hlD (W.iA rfl ?_)))))))));rw [aO];have divN:∀ {a b:Int},0 < b/\b < 1000000->binM .FloorDiv (.int a) (.int b)=Pure.pure (.int (a / b)):=λ{a b} h=>aN h;have mulN:∀ {a:Nat},a < 1000->binM .Mult (.int 3) (.int (a:Int))=Pure.pure (.int (3*(a:Int))):=λ{a} h=>aN ⟨by decide,(bB h (by decide):a < 2 ^ 64)⟩;obtain x13|N|hN|Co|hNd:=(i13 (ds.length / 3) rfl (Nat.div_le_of_le_mul (lD▸cQ (gW ..) 3)) (Nat.mul_div_le ..):∃ N:Nat,(ds.length:Int) / 3=(N:Int)/\N<=12/\3*N<=ds.length);refine W.jA (λZ=>divN (by decide)) ?_;rw [hN];obtain x02|sm1|sm2:=FV ⟨N,Nat.lt_succ_of_le Co⟩;refine ⟨rfl,W.ty (W.PR (W.kP oA sm1 ?_))⟩;rw [sm2];refine genE ((h5++ [O.rng 0 (N:Int) 1]).length) ?_;intro it e7;try dsimp only
 refine genE (h5++ [O.rng 0 (N:Int) 1]++ [O.itR 0 (N:Int) 1]) ?_;intro h6 e8;have F:Pre h4 h6/\h6[dg]? =some (.list (ds.map V.int))/\h6[it]? =some (.itR 0 (N:Int) 1)/\h5.length < it:=by
  subst e7 e8;exact ⟨p5.trans ((Pre.app _ _).trans (Pre.app _ _)),lA (lA Dk),oA,by simp⟩
 clear e7 e8;obtain x04|p6|d6|i6|hil:=F;have hdg5:=CA Dk;have p45:=p5.len;have Cb:=bB (aT (CA q3) p45) hil;refine W.KM (vs:=(List.range N).map λi:Nat=>V.int (i:Int)) (it:=it) (λi=> .itR (i:Int) ((N:Int) - (i:Int)) 1) (I:=λi s'=>(∃ hY ns rs,Wld s'.h A0 m hY ns rs/\Inv hY ns rs i/\∀ j∈wC A0 m ns rs,j≠1/\j≠2/\j≠3/\j≠dg/\j≠it)/\s'.h[it]? =some (.itR (i:Int) ((N:Int) - (i:Int)) 1)/\s'.h[1]? =some (.cell (some (.ref 5)))/\s'.h[2]? =some (.cell none)/\s'.h[3]? =some (.cell (some (.ref m)))/\s'.h[dg]? =some (.list (ds.map V.int))/\has s'.l "root" (.int 4)/\has s'.l "digits" (.ref dg)) ?_ ?_ ?_ ((List.range N).map λi:Nat=>V.int (i:Int)).length 0 _ (cW _) ?_
 ·intro i s' Q2 ii Ar h1 h2;obtain x03|u_|i2|u_:=ii;have hlen:((List.range N).map λi:Nat=>V.int (i:Int)).length=N:=by simp
  rw [hlen] at Ar h2;refine W.oP i2 (λhlt=>?_) λhle2=>h2 (cO.mp (Int.le_of_sub_nonpos hle2));have:=h1 (.int (i:Int)) (by rw [bS,eX (eG.mp (Int.lt_of_sub_pos hlt))];rfl);have ea:((i+1:Nat):Int)=(i:Int)+1:=rfl;rw [ea] at this;rw [show (N:Int) - ((i:Int)+1)=(N:Int) - (i:Int) - 1 from (Int.sub_sub ..).symm] at this;exact this
 ·intro i v s' ii hv;obtain x06|Du|i2|i3|i4|i5|Dv:=ii;obtain x33|hY|ns|rs|X|I|hJ:=Du;obtain x03|i7|i8|i9:=Dv;have hi:i < N:=by
   have:=(aQ.mp hv).1;simpa using this
  have Cn:v= .int (i:Int):=by
   rw [bS,eX hi] at hv;exact (Option.some.inj hv).symm
  subst Cn;refine genE (s'.h.set it (.itR ((i+1:Nat):Int) ((N:Int) - ((i+1:Nat):Int)) 1)) ?_;intro h7 e9;have Bc:Keep [it] s'.h h7:=by subst e9;exact (Keep.refl _ _).set (.inl (.head _))
  have X1:=X.keep Bc λj hj hj2=>(hJ j hj).2.2.2.2 (aH.mp hj2);have j1:=Bc.2 _ _ i3 (nsg (bB (by decide) Cb));have j2:=Bc.2 _ _ i4 (nsg (bB (by decide) Cb));have j3:=Bc.2 _ _ i5 (nsg Cb);have j4:=Bc.2 _ _ i7 (nsg (bB hdg5 hil));have j5:h7[it]? =some (.itR ((i+1:Nat):Int) ((N:Int) - ((i+1:Nat):Int)) 1):=by subst e9;exact RA i2
  clear e9;refine W.jF (W.asN rfl ?_);have dig:∀ k:Nat,k < 3->∃ z:Int,(ds.map V.int)[(3*(i:Int)+(k:Int)).toNat]? =some (.int z):=λk hk=>by
   have hlt:3*i+k < ds.length:=aT (Nat.add_lt_add_left hk (3*i)) (aE (cZ 3 hi) hNd);refine ⟨ds[3*i+k],?_⟩;have e1:(3*(i:Int)+(k:Int)).toNat=3*i+k:=rfl;rw [e1,bS,bK hlt];rfl
  have h12:=aT hi Co;have hk:=bB h12 (show 12 < 1000 by decide);obtain x11|x|hx1:=dig 0 (by decide);obtain x11|y|hy1:=dig 1 (by decide);obtain x11|zz|hz1:=dig 2 (by decide);refine W.stC (W.sIf (W.RC (W.qB rfl (W.cG (by rfl) (W.cI j1 (W.cI j3 ?_))))));refine W.it (W.lo (vA (by decide) i9) (W.GA (W.iA rfl (W.lo TA (W.jA (λZ=>mulN hk) (W.RE j4 (d3 (k:=0) h12 (by decide)) hx1 ?_))))));refine W.it (W.lo (vA (by decide) i9) (W.GA (W.GA (W.iA rfl (W.lo TA (W.jA (λZ=>mulN hk) (W.iA rfl (W.jA (λZ=>rfl) (W.RE j4 (d3 (k:=1) h12 (by decide)) hy1 ?_)))))))));refine W.it (W.lo (vA (by decide) i9) (W.GA (W.GA (W.iA rfl (W.lo TA (W.jA (λZ=>mulN hk) (W.iA rfl (W.jA (λZ=>rfl) (W.RE j4 (d3 (k:=2) h12 (by decide)) hz1 ⟨rfl,?_⟩)))))))));refine nO (A:=A0) (d:=50) X1 I (dI h12) λh8 hY' ns' rs' X8 I8 N8=>W.jA (λZ=>rfl) ?_;have l7:∀ {j:Nat} {o:O},h7[j]? =some o->(∀ q∈wC A0 m ns rs,q≠j)->h8[j]? =some o/\∀ q∈wC A0 m ns' rs',q≠j:=λ{j o} e hq=>by
   refine ⟨N8.keep.2 _ _ e λz=>hq j z rfl,λq hq2 z=>?_⟩;rcases N8.new q hq2 with h | h
   ·exact hq q h z
   ·have:=CA e;exact cB.mpr h (z.symm▸this)
  obtain x02|k1|k1':=l7 j1 λq hq=>(hJ q hq).1;obtain x02|k2|k2':=l7 j2 λq hq=>(hJ q hq).2.1;obtain x02|k3|k3':=l7 j3 λq hq=>(hJ q hq).2.2.1;obtain x02|k4|k4':=l7 j4 λq hq=>(hJ q hq).2.2.2.1;obtain x02|k5|k5':=l7 j5 λq hq=>(hJ q hq).2.2.2.2;exact W.stN (W.stN ⟨i33 hY' ns' rs' X8 I8 λq hq=>i05 (k1' q hq) (k2' q hq) (k3' q hq) (k4' q hq) (k5' q hq),k5,k1,k2,k3,k4,vA (by decide) i8,vA (by decide) i9⟩)
 ·intro s' ii;obtain x06|Ds|i2|i3|i4|i5|Dt:=ii;obtain x33|hY|ns|rs|X|I|hJ:=Ds;obtain x03|i7|i8|i9:=Dt;have hlen:((List.range N).map λi:Nat=>V.int (i:Int)).length=N:=by simp
  rw [hlen] at I;try dsimp only
  refine genE (s'.h.set it .dead) ?_;intro h7 e9;have Bc:Keep [it] s'.h h7:=by subst e9;exact (Keep.refl _ _).set (.inl (.head _))
  clear e9;have X1:=X.keep Bc λj hj hj2=>(hJ j hj).2.2.2.2 (aH.mp hj2);have j1:=Bc.2 _ _ i3 (nsg (bB (by decide) Cb));have j2:=Bc.2 _ _ i4 (nsg (bB (by decide) Cb));have j3:=Bc.2 _ _ i5 (nsg Cb);obtain x21|nt|zp|Rp:=X1.rep;have nk:∀ n∈ns,(n.kQ.map (·.1)).Nodup:=λn hn=>(Rp.kok n hn).2;obtain x11|dep|T:=I.dep;have TR:=I.tree T;have hrl:=I.rlen;have hlen:=I.len;obtain x12|r4|hr4|hr4p:=I.root.1;have zZ:rwAt rs 4=some r4:=by rw [<-hr4p];exact yA I.rnd hr4
  obtain x12|n4|hn4|u_:=I.nd_of zZ;have Br:∀ {p:Int} {r:Rw},rwAt rs p=some r->dep p<=13:=λ{p r} hr=>by
   obtain x02|h1|h2:=HA hr;have:=TR.bound r h1;rw [h2,hrl] at this;exact aE this (aE hlen.1 (bP Co))
  obtain x11|kR|eR:=X1.rows.dict;have lj3:=CA j3;have lF:=X1.len;refine W.stC (W.oH rfl (W.cI j3 (W.XI eR (pC rs) ?_)));have e0:(UA rs).length=rs.length:=by exact aO _
  refine W.KM (vs:=(UA rs).map (·.1)) (it:=h7.length) (λi=> .itD m i (UA rs).length kR) (I:=λi s'=>Wld s'.h A0 m hY ns rs/\s'.h[m]? =some (.dict (UA rs) kR)/\s'.h[h7.length]? =some (.itD m i (UA rs).length kR)/\s'.h[1]? =some (.cell (some (.ref 5)))/\(∃ c,s'.h[2]? =some (.cell c))/\s'.h[3]? =some (.cell (some (.ref m)))/\has s'.l "root" (.int 4)) ?_ ?_ ?_ ((UA rs).map (·.1)).length 0 _ (cW _) ?_
  ·intro i s2 Q2 ii Ar u1 u2;obtain x04|a1|a2|a3|u_:=ii;exact W.nH a3 a2 (pC rs) (λe he=>u1 _ (by rw [bS,he];rfl)) λhl=>u2 (by rw [aO];exact hl)
  ·intro i v s2 ii hv;obtain x06|a1|a2|a3|a4|Dq|Dr:=ii;obtain x11|c0|a5:=Dq;obtain x02|a6|a7:=Dr;have Cn:∃ r∈rs,v= .int r.pQ:=by
    have:=cT hv;obtain x12|e|he|rfl:=aL.mp this;obtain x12|r|hr|rfl:=aL.mp he;exact i12 r hr rfl
   obtain x12|r|hr|rfl:=Cn;have hmF:m∈wC A0 m ns rs:=bO _ (.head _);have lm:=lF m hmF;have hm2:m≠2:=(hJ m hmF).2.1;refine W.jF (W.asC rfl rfl (qA (aV (bB (by decide) lj3)) a5) ?_);refine W.heap (h':=(s2.h.set h7.length (.itD m (i+1) (UA rs).length kR)).set 2 (.cell (some (.int r.pQ)))) rfl ?_;refine genE ((s2.h.set h7.length (.itD m (i+1) (UA rs).length kR)).set 2 (.cell (some (.int r.pQ)))) ?_;intro h8 e9;have kk:Keep [h7.length,2] s2.h h8:=by subst e9;exact ((Keep.refl _ _).set (.inl (.head _))).set (.inl (.tail _ (.head _)))
   have X2:=a1.keep kk λj hj hj2=>by
    have h1:=lF j hj;have h2:=(hJ j hj).2.1;exact (aZ.mp hj2).elim (bG h1) λe=>h2 (aH.mp e)
   have b1:=kk.2 _ _ a4 (nin2 (bG (bB (by decide) lj3)) (by decide));have b2:=kk.2 _ _ a2 (nin2 (bG lm) hm2);have b3:=kk.2 _ _ a6 (nin2 (bG lj3) (by decide));have b4:h8[2]? =some (.cell (some (.int r.pQ))):=by subst e9;exact RA (qA (aV (bB (by decide) lj3)) a5)
   have b5:h8[h7.length]? =some (.itD m (i+1) (UA rs).length kR):=by subst e9;exact qA (bG (bB (by decide) lj3)) (RA a3)
   clear e9;obtain x21|nt2|zp2|R2:=X2.rep;have Dd:=yA I.rnd hr;obtain x12|n|hn|en:=I.nd_of Dd;have Ca:=Br Dd;have De:=TR.climb 13 r.pQ (.inr ⟨r,Dd⟩) Ca;obtain x04|pa1|pa2|pa3|pa4:=I.path TR 13 r.pQ r Dd Ca [];have Db:=iL (JB rs 13 r.pQ) λx hx=>(CD x (pa3 x hx).1 (pa3 x hx).2).2.2.1;have hj:((JB rs 13 r.pQ).map (·.length)).sum+(JB rs 13 r.pQ).length<=1048576:=by
    have h13:(JB rs 13 r.pQ).length<=13:=by assumption
    exact aE (dM (aE Db (cZ 12 h13)) h13) (by decide)
   have Dc:(Txt.join "/" (JB rs 13 r.pQ)).length<=80000:=by
    rw [TF];have:=StrLaws.join_length_le ⟨#[47]⟩ (JB rs 13 r.pQ);have e1:(⟨#[47]⟩:Str).length=1:=rfl;rw [e1] at this;have h13:(JB rs 13 r.pQ).length<=13:=by assumption
    exact aE this (aE (dM (aE Db (cZ 12 h13)) (Nat.mul_le_mul_right 1 h13)) (by decide))
   refine W.stC (W.sIf (W.xA rfl (W.WB (cells:=_) (λc=>isIn ns 13 r.pQ c.pQ) (λc=> .int c.pQ) rfl rfl rfl X2.rows (W.cI b3 ⟨rfl,rfl⟩) ?_ ?_ ?_)))
   ·intro c hc h lo hp hlo;refine W.ED (W.qB rfl (W.cG (by rfl) (W.li (hp.get b1) (W.li (hp.get b4) (W.la hlo (W.en rfl ?_))))));exact AH (R2.on hp _) (I.climbN 13 _ De) λh' p'=>W.jA (λZ=>rfl) (i03 rfl p' rfl)
   ·intro c hc hg h lo hp hlo;exact W.lo hlo (i03 rfl (Pre.refl _) rfl)
   ·intro h9 acc p9 ha jY;refine W.WB (cells:=_) (λc=>decide (c.pQ∈upR rs 13 r.pQ)) (λc=> .int c.pQ) rfl rfl rfl (X2.rows.pre p9) (W.cI (p9.get b3) ⟨rfl,rfl⟩) ?_ ?_ ?_
    ·intro c hc h lo hp hlo;refine W.ED (W.xA rfl (W.lo hlo (W.cG (by rfl) (W.li (hp.get (p9.get b3)) (W.li (hp.get (p9.get b4)) (W.en rfl ?_))))));exact BE ((X2.rows.pre p9).pre hp) De (by decide) λh' r' p' hr' hl'=>W.lK hl' (i03 rfl p' rfl)
    ·intro c hc hg h lo hp hlo;exact W.lo hlo (i03 rfl (Pre.refl _) rfl)
    ·intro h10 acc2 p10 ha2 hacc2;have eg:(rs.filter λc=>isIn ns 13 r.pQ c.pQ)=rs.filter λc=>decide (c.pQ∈upR rs 13 r.pQ):=List.filter_congr λc Z=>I.inn 13 r.pQ c.pQ De;rw [eg] at jY;have em:(rs.filter λc=>decide (c.pQ∈upR rs 13 r.pQ)).map (λc=>V.int c.pQ)=((rs.filter λc=>decide (c.pQ∈upR rs 13 r.pQ)).map (·.pQ)).map V.int:=by rw [aP];rfl
     rw [em] at jY hacc2;refine W.ZI (p10.get jY) hacc2 (mE _) (W.stN ?_);have g10:=p9.trans p10;refine W.stC (W.sIf (W.xA rfl (W.it (W.cG (by rfl) (W.yD (cells:=_) rfl rfl λhL pL eL=>⟨rfl,?_⟩)))));have gL:=g10.trans pL;refine zC (d:=59) eL (Qv:=λZ Z=>False) (Ec:=λC h=>C=51/\Pre hL h) (λlo=>?_) (λv h hq=>hq.elim) (λC h ⟨hC,hp⟩=>?_)
     ·refine W.lam eL rfl (W.cG (by rfl) (W.cF (gL.get b1) (W.GA (W.cG (by rfl) (W.lf (gL.get b3) (W.lf (gL.get b4) (W.en rfl ?_)))))));have en7:("/nothing" :Str).length=8:=by decide+kernel
      refine LI (X2.rows.pre gL) De (by decide) hj λh11 p11=>W.iA rfl (W.lH (by rw [en7];exact aE (cQ Dc 8) (by decide)) ⟨rfl,?_⟩);have Cp:=I.nowhere hn4 hn pa3 pa2;refine mG (R2.on (gL.trans p11) _) (I.closed nk) hn4 ?_ (λh12 c Ba hc=>?_) (λh12 Ba hc=>⟨rfl,p11.trans Ba⟩)
      ·show (Txt.join "/" (JB rs 13 r.pQ)++("/nothing" :Str)).cps.size<=90000;rw [Str.cps_append,Array.size_append];have z1:(Txt.join "/" (JB rs 13 r.pQ)).cps.size<=80000:=Dc;have z2:("/nothing" :Str).cps.size=8:=en7;exact aE (dM z1 (bV z2)) (by decide)
      ·rw [Cp] at hc;cases hc
     subst hC;refine i12 _ rfl (W.iA rfl (W.VF oA ⟨by decide,by decide⟩ rfl (W.iA rfl (W.jA (a:=!decide (("Missing" :Str)="Missing")) (λZ=>rfl) ?_))));rw [aF rfl];have gE:Pre h8 (h++ [O.tup [.str "Missing",.int 0]]):=gL.trans (hp.trans (Pre.app _ _));exact W.stN (W.stN (i07 (X2.pre gE) (gE.get b2) (gE.get b5) (gE.get b1) ⟨_,gE.get b4⟩ (gE.get b3) a7))
  ·intro s2 ii;obtain x06|a1|a2|a3|a4|Do|Dp:=ii;obtain x11|c0|a5:=Do;obtain x02|a6|a7:=Dp;try dsimp only
   refine genE (s2.h.set h7.length .dead) ?_;intro h8 e9;have kk:Keep [h7.length] s2.h h8:=by subst e9;exact (Keep.refl _ _).set (.inl (.head _))
   clear e9;have X2:=a1.keep kk λj hj hj2=>by
    exact bG (lF j hj) (aH.mp hj2)
   have b1:=kk.2 _ _ a4 (nsg (bB (by decide) lj3));have b3:=kk.2 _ _ a6 (nsg lj3);obtain x21|nt2|zp2|R2:=X2.rep;refine W.stC (W.pA (W.and (W.cG (by rfl) (W.li b1 (W.li b3 (W.la a7 (W.en rfl ?_)))))));refine DQ (A:=A0) (d:=30) X2 I Co λh9 p9=>W.pure ?_;rw [aN rfl];refine W.VI (W.UD rfl (W.it (W.cG (by rfl) (W.yD (cells:=_) rfl rfl λhL pL eL=>⟨rfl,?_⟩))));have gL:=p9.trans pL;refine zC (d:=59) eL (Qv:=λZ Z=>False) (Ec:=λC h=>C=51/\Pre hL h) (λlo=>?_) (λv h hq=>hq.elim) (λC h ⟨hC,hp⟩=>?_)
   ·refine W.lam eL rfl (W.cG (by rfl) (W.lf (gL.get b1) (W.lk rfl (W.en rfl ?_))));have Cp:=I.noab nk hn4;refine mG (R2.on gL _) (I.closed nk) hn4 (by decide+kernel) (λh12 c Ba hc=>?_) (λh12 Ba hc=>⟨rfl,Ba⟩);rw [Cp] at hc;cases hc
   subst hC;refine i12 _ rfl (W.iA rfl (W.VF oA ⟨by decide,by decide⟩ rfl (W.iA rfl (W.jA (a:=decide (("Missing" :Str)="Missing")) (λZ=>rfl) ?_))));exact aU (λb=>Flow.ret (.bool b)) (aF rfl)
  ·exact i07 (X1.pre (Pre.app _ _)) (lA eR) oA (lA j1) ⟨_,lA j2⟩ (lA j3) i8
 ·refine ⟨i33 4 _ _ (X0.pre p6) (inv0 z (m+1)) λj hj=>?_,?_,p6.get q1,p6.get q2,p6.get q3,d6,rfl,rfl⟩
  ·have h1:=hJ0 j hj;have h2:=X0.len j hj;exact ⟨h1.1,h1.2.1,h1.2.2,bG (aT h2 Dl),bG (aT h2 (cC (bF p45 hil)))⟩
  ·rw [i6];exact rfl
theorem law_run2{xs:List Int}(hx:xs.length<=63){sc:Scope}{iY:List Stmt}(h:∃ fo fd s0,(Internal.kx.heap_1 w.params).lookup 518=some fo/\fo.data= .func fd/\fd.body= .stmts (s0::iY)/\fd.scope=sc):
  W (pg w) (λF=>tB (pg w).K F iY {scope:=sc,cells:=vK,d:=60,lq:=lqL,stm:=true}) (λf Z=>f= .ret (.bool true)) (λZ Z=>False) ⟨[.list (xs.map V.int),.cell none,.cell none,.cell none],[("script",.ref 0)]⟩:=by
 obtain x33|fo|fd|s0|h1|h2|Dn:=h;obtain x02|h3|rfl:=Dn;exact uV hx h1 h2 h3
end
theorem prim_ok{G:Internal.Ground}:wI prog G pr0:=λZ Z Z Z Z Z Z Z Z Z Z h=>by cases h
theorem good_of{c:ClaimW}{cl:Str->Option Addr}{nY:ExcName->Option Value}{args:List WData}{s₁ r:Shared}(h1:∀ b o,s₁.heap.get? b=some o->r.heap.get? b=some o)(h2:r.gens= #[])(h3:r.os=s₁.os)
  (k1:∀ cls,c.raises args cls=false) (k2:c.post args (.bool true) args=true):GoodW c cl nY args s₁ (.ok (.ret (.bool true))) r:=
 ⟨.inl ⟨.bool true,.bool true,[],rfl,k1,.bool true,k2,λZ=>⟨gH,λZ h=>by cases h⟩⟩,h1,h3,h2⟩
theorem grown4{h:Heap}(k:∀ q∈csL,GrownAt q.2.1 h):GrownAll [(486,484),(481,477),(474,470),(517,515)] h:=⟨k _ (.head _),k _ (.tail _ (.head _)),k _ (.tail _ (.tail _ (.head _))),k _ (.tail _ (.tail _ (.tail _ (.head _)))),trivial⟩
namespace fin
theorem t:True:=⟨⟩
def tw13932964881511261172:=t
def tw11002211109455892721:=t
def tw7508116893992812673:=t
def tw12985534914313370171:=t
def tw14007157553230379129:=t
def tw9432584389688678875:=t
def tw6629698451359802634:=t
def tw17051689526534075057:=t
def tw16883633458371206687:=t
def tw15687327683126366653:=t
def tw14179216201617565534:=t
def tw17324576311249581581:=t
def tw9968289067653621407:=t
def tw8124107874210468966:=t
def tw8014337983679608743:=t
def tw7623100121587850396:=t
def tw10217963804340437591:=t
def tw10966643250025713495:=t
def tw12658132662030884734:=t
def tw8851916629209121896:=t
def tw8396271037758250886:=t
def tw7830803463123517711:=t
def tw6590132104341046389:=t
def tw6401799079411713046:=t
def tw6138343795457657905:=t
def tw5392569062792859208:=t
def tw237759276480251015:=t
def tw17763826608027091916:=t
def tw11375213109337277574:=t
def tw11019782154094685207:=t
def tw9899372984588633823:=t
def tw913452792026110498:=t
def tw8973149774018450017:=t
def tw881836078047247556:=t
def tw735964298937975139:=t
def tw578393361859869486:=t
def tw4903414372245246967:=t
def tw3983001507352502816:=t
def tw3732077181046134874:=t
def tw3256181899740253267:=t
def tw2630425597637047957:=t
def tw18032752973935184152:=t
def tw17844496455756515143:=t
def tw1714551061236940154:=t
def tw17134053581919242129:=t
def tw16209726950359627067:=t
def tw15621423438681146916:=t
def tw14787395603204051770:=t
def tw14730974034944540500:=t
def tw13579606697019131511:=t
def tw13219759248905965302:=t
def tw12818189991311552551:=t
def tw12728408967299933814:=t
def tw12105714425835765549:=t
def tw11983907766908392123:=t
def tw11833944629547217256:=t
def tw11463026706869405407:=t
def tw11359389087054015249:=t
def tw10795569222855326056:=t
def tw10761767289782569784:=t
def tw10756122258564648850:=t
def tw10604713733975554549:=t
def tw10440988982474671176:=t
def tw9987566790665192103:=t
def tw9890543006225072778:=t
def tw9862533669311358717:=t
def tw9809085881621910645:=t
def tw9804402546275362150:=t
def tw9763141106223544475:=t
def tw973645630443733803:=t
def tw970166163450843124:=t
def tw9694326802695734140:=t
def tw9585927934101009454:=t
def tw9508504513080108029:=t
def tw9288655823870673877:=t
def tw9218747949634438232:=t
def tw9218103182983575317:=t
def tw9199244030984265097:=t
def tw18421988418198272511:=t
def tw13521642978945298786:=t
def tw4422349387535619577:=t
def tw9155812833294501799:=t
def tw7780620738485604898:=t
def tw4699239838720386143:=t
def tw3622804344337718555:=t
def tw2818785465084221557:=t
def tw5300850494420853452:=t
def tw6855937698159628754:=t
def tw15560622003675342565:=t
def tw7176322367641920775:=t
def tw7387264790159314695:=t
def tw7404231345056041857:=t
def tw6996065991468001881:=t
def tw85597041544796557:=t
def tw7327883387467983227:=t
def tw4623864186548631438:=t
def tw312320755268574721:=t
def tw3859051410488563131:=t
def tw6236799866750327299:=t
def tw14984861748438760606:=t
def tw9715033506406136718:=t
def tw12821835467361302199:=t
def tw14977455720127926889:=t
def tw1727388271678967027:=t
def tw7227462010835040543:=t
def tw4845168782450850210:=t
def tw1969164340225870773:=t
def tw9573134109058674062:=t
def tw9162863155319748830:=t
def tw7662311291707361580:=t
def tw7502815885328738436:=t
def tw7162271962621420181:=t
def tw6602120431687225257:=t
def tw16116090648269282590:=t
def tw9461340986473627774:=t
def tw4040363941866615369:=t
def tw11065602978615914734:=t
def tw7730857707502357651:=t
def tw10516416076875482818:=t
def tw4347714585422662997:=t
def tw7757520993659249249:=t
def tw8638642258875043742:=t
def tw653253052825094456:=t
def tw4881483069196806532:=t
def tw11748189393708796605:=t
def tw15108676325601250644:=t
def tw17535710389487946368:=t
def tw12944077835153251280:=t
def tw11856916732792875981:=t
def tw13801696930345824246:=t
def tw1885974954384102414:=t
def tw4969323946619316913:=t
def tw4235615250289832822:=t
def tw2653347682298403802:=t
def tw2627603783394271067:=t
def tw15132477702292425843:=t
def tw14513138391233996993:=t
def tw9478360763387557666:=t
def tw6898464383981307343:=t
def tw7085285378944412463:=t
def tw9642423498592719742:=t
def tw5576422160878907909:=t
def tw16218566103649271296:=t
def tw6701851574449800180:=t
def tw10959327031099614501:=t
def tw853953037760897593:=t
def tw6362722299729937337:=t
def tw15368117077066214084:=t
def tw17190162308591287682:=t
def tw6586771005799455215:=t
def tw17583733333754803539:=t
def tw18228199484428271436:=t
def tw4298466937294923315:=t
def tw12783194944648628336:=t
def tw8980331882645104606:=t
def tw1743478203512229215:=t
def tw7180039594387384798:=t
def tw9400913117785555229:=t
def tw10670551380161375984:=t
def tw3782524776480374360:=t
def tw6711253688542815684:=t
def tw5939051105096279397:=t
def tw7809718199312915790:=t
def tw8604438210396043658:=t
def tw7339623755350961751:=t
def tw12425621082747286652:=t
def tw12254283809228170859:=t
def tw17162401143438305978:=t
def tw14471179685262769359:=t
def tw10525270927419611250:=t
def tw848689651642715286:=t
def tw5744726830556383836:=t
def tw4174966351008691740:=t
def tw11591014743724440735:=t
def tw12367442892804617873:=t
def tw6464366338205002614:=t
def tw3626366016492265067:=t
def tw1628259712853094085:=t
def tw13805567287713685615:=t
def tw1210902452775054794:=t
def tw10258281112197278753:=t
def tw15832349436046127342:=t
def tw10490940362332451455:=t
def tw15425517230761435204:=t
def tw8646637523741883303:=t
def tw11415201462880637590:=t
def tw12261096038988344630:=t
def tw10293466368658247990:=t
def tw12818429230668374364:=t
def tw513796763308598702:=t
def tw6013939223429049318:=t
def tw10454489578825753699:=t
def tw5626107423152007788:=t
def tw3504804836354931749:=t
def tw12371024498023297242:=t
def tw1228161667635607553:=t
def tw17657262062977041327:=t
def tw4095395181600428311:=t
def tw10572499903585180680:=t
def tw16829899427869048264:=t
def tw5331663024314550859:=t
def tw157841474496299663:=t
def tw16165927571820892213:=t
def tw15219962140886423835:=t
def tw9385483543492928997:=t
def tw5206077791122336047:=t
def tw10450573661452428403:=t
def tw9246773321903693380:=t
def tw13663359935578451097:=t
def tw301635487843562356:=t
def tw951290175880648405:=t
def tw15535835797199125884:=t
def tw18155248762749874105:=t
def tw17309866849116415927:=t
def tw8719216786114299836:=t
def tw14154963380204359979:=t
def tw3014368376498957435:=t
def tw17932019057852361682:=t
def tw14213276528395868955:=t
def tw18349729593863146238:=t
def tw15322877060389862486:=t
def tw10698030139401126340:=t
def tw686242175015610607:=t
def tw13426740753595051649:=t
def tw13714803161899506080:=t
def tw6911454473591129155:=t
def tw8737625157631829971:=t
def tw7668545305434778330:=t
def tw11965916128720437244:=t
def tw8014634409743955270:=t
def tw5574107333908736580:=t
def tw16255881046300035645:=t
def tw884167461805493956:=t
def tw13853233818177411133:=t
def tw4085584366452234782:=t
def tw5949428104891105260:=t
def tw2344466419728988931:=t
def tw1728271404297084629:=t
def tw11377299566778507542:=t
def tw7843838092883423259:=t
def tw10124821233986874719:=t
def tw12343421832154499481:=t
def tw11272349981905134412:=t
def tw16838651847877730459:=t
def tw6768220861516064745:=t
def tw10232165063010965816:=t
def tw3612092616865692893:=t
def tw10788788603572418650:=t
def tw10322172140280163061:=t
def tw16383334124794334985:=t
def tw2102387023503249701:=t
def tw2630484506467410271:=t
def tw6795995610145854053:=t
def tw10982554637699192954:=t
def tw10453994189837061311:=t
def tw11365614358415232082:=t
def tw11059286594164908733:=t
def tw12433586462048417847:=t
def tw11619835380903370010:=t
def tw7447070678454092956:=t
def tw16518415593903703250:=t
def tw15453639818852189485:=t
def tw16523045486115941486:=t
def tw2224603292955027551:=t
def tw8096400962387232283:=t
def tw3846347615445768368:=t
def tw9997819269209451680:=t
def tw7302036174830037831:=t
def tw4204094669156644082:=t
def tw17642307753823517703:=t
def tw5285008296658393137:=t
def tw11498387124999498862:=t
def tw6599749106417106351:=t
def tw5940192151992734692:=t
def tw5851674354626246572:=t
def tw6838910971382007648:=t
def tw4685322312301163865:=t
def tw11629939947327534809:=t
def tw10950750788974686484:=t
def tw24186643881130890:=t
def tw14526085652570534287:=t
def tw15380439405951311494:=t
def tw11180698874378802106:=t
def tw1627794816460349371:=t
def tw1248856465930339398:=t
def tw3190014669455240896:=t
def tw17699928976186928790:=t
def tw13447104150393510651:=t
def tw17162306557337563459:=t
def tw17709428903251391530:=t
def tw12979175482135192378:=t
def tw8924613324551988625:=t
def tw15724403559764578150:=t
def tw1153478756486184893:=t
def tw8052158914406149798:=t
def tw12720935566179349353:=t
def tw12588834193870107763:=t
def tw2177522156329449181:=t
def tw7269782465735252775:=t
def tw10313656841486476371:=t
def tw9001687027634420393:=t
def tw17031333698169659043:=t
def tw6276147762810220125:=t
def tw10939870709648854998:=t
def tw17348994607881243345:=t
def tw14941066845551429672:=t
def tw14969497383059948054:=t
def tw9726963445208728020:=t
def tw2500204486934178144:=t
def tw7611582397103404787:=t
def tw11933586902043643256:=t
def tw5993120557826791118:=t
def tw7739257039261453267:=t
def tw6291604650425166654:=t
def tw1561476539091031988:=t
def tw9001928773169165392:=t
def tw7945397795088596503:=t
def tw6774885543218183996:=t
def tw18306768272055753547:=t
def tw12723293506881924519:=t
def tw10030706520749298142:=t
def tw13146928573816939244:=t
def tw5343189720797039205:=t
def tw13833692147759113022:=t
def tw15546562857245425349:=t
def tw9562328363012388813:=t
def tw8566810241042997626:=t
def tw7900867322524207961:=t
def tw6293822574969353370:=t
def tw5661731590872983935:=t
def tw5522838950113329531:=t
def tw10054801639918694584:=t
def tw1449701441728362627:=t
def tw10340365663605614998:=t
def tw17885069033996877588:=t
def tw14245509321951123870:=t
def tw12025988795669126388:=t
def tw12012897492670434869:=t
def tw1700482715095968662:=t
def tw10523214812500175388:=t
def tw4030957363294268653:=t
def tw15877044915679762224:=t
def tw14929735266709559393:=t
def tw13782184648862956921:=t
def tw15393372505062411371:=t
def tw13054241853073254241:=t
def tw16064423187191232524:=t
def tw13910845593872095173:=t
def tw14263290009714691113:=t
def tw10643782453201198349:=t
def tw12151285269701370751:=t
def tw11704043334474262307:=t
def tw8930554013035457661:=t
def tw7516437759716880697:=t
def tw17074465141363458138:=t
def tw16254484480714706566:=t
def tw15682541387377302732:=t
def tw3576840993798952699:=t
def tw4275168675742869858:=t
def tw16218374419631287483:=t
def tw13157283591065204326:=t
def tw7002038499387580936:=t
def tw5248556471026999137:=t
def tw4333050200694934077:=t
def tw3906935743720331562:=t
def tw3882232551720286383:=t
def tw3369404099585207774:=t
def tw18190128187472158533:=t
def tw1810950795277056042:=t
def tw10320863065423613389:=t
def tw615008228308396162:=t
def tw10151774837795076559:=t
def tw11578111296392197043:=t
def tw10083568452126741337:=t
def tw12312678059131669415:=t
def tw1571053583234132718:=t
def tw15519115147857870108:=t
def tw14027550437634592795:=t
def tw13508123708927740816:=t
def tw10229472248130682384:=t
def tw7979411828104254531:=t
def tw7481744265358168695:=t
def tw2011252167090199525:=t
def tw15453617399227546866:=t
def tw775335176404095660:=t
def tw14955400169305581242:=t
def tw6827454728850745252:=t
def tw4858322062783622485:=t
def tw4010437059623930589:=t
def tw3812248998239454887:=t
def tw1614694221787278643:=t
def tw16131173594446136172:=t
def tw14450854241461416887:=t
def tw14121764553007447739:=t
def tw14117954257981413927:=t
def tw13943307443596397629:=t
def tw13864385086465655376:=t
def tw13812758284290078331:=t
def tw13675082909528429616:=t
def tw13244055409214725675:=t
def tw13208826061302042507:=t
def tw12791291809339260675:=t
def tw11036190526755616952:=t
def tw10753749902796605426:=t
def tw10491452424965037592:=t
def tw5360717875067519230:=t
def tw18208765713485642985:=t
def tw15786171253065439123:=t
def tw14217820790169435057:=t
def tw13388514601895834250:=t
def tw6710321220683653220:=t
def tw14825875459761156871:=t
def tw10654066879469706124:=t
def tw9976009823246919953:=t
def tw9072725638371966384:=t
def tw9054742064048903769:=t
def tw8862410832222759449:=t
def tw8814672979272842429:=t
def tw8611877893874643605:=t
def tw8554927011890517220:=t
def tw7899114693073602206:=t
def tw654172284090668370:=t
def tw573101280890522718:=t
def tw5542252176740254156:=t
def tw4011259767542125381:=t
def tw3363023749136135004:=t
def tw2798672084488776072:=t
def tw2644893956123968231:=t
def tw1987791227361749187:=t
def tw1922831600205132673:=t
def tw18286236208033328211:=t
def tw17926196342173696085:=t
def tw17483634341429600915:=t
def tw16784679367222650654:=t
def tw15154197133983985111:=t
def tw13309382023251551347:=t
def tw15602249088716440353:=t
def tw3249891747195961294:=t
def tw11645183153348686013:=t
def tw15069330067287282998:=t
def tw13441837438305336799:=t
def tw2624043064214227314:=t
def tw8013881868143369869:=t
def tw7225085419036597269:=t
def tw7164932533437816402:=t
def tw6910324609300528158:=t
def tw5049695866536702362:=t
def tw391220003329918379:=t
def tw2741038421504181355:=t
def tw2344586931948571280:=t
def tw18053112907265676147:=t
def tw15417623944280430742:=t
def tw4423585627982893886:=t
def tw7681192999253399051:=t
def tw4529393985658018589:=t
def tw15435410279793180500:=t
def tw7607088063629183041:=t
def tw4972153197673891866:=t
def tw4182022370242638732:=t
def tw16262238756490881914:=t
def tw16009296816234947704:=t
def tw10579146813373768860:=t
end fin
set_option Elab.async true
set_option maxHeartbeats 40000000
noncomputable def fin.P0:Params:={strHash:=λZ=>0,shareClass:=λZ=>0,mergeTok:=id,idOf:=λZ=>0,idOfShared:=λZ Z=>0,followText:=λZ=>false,idOfImm:=λZ=>0}
theorem fin:PySem.Challenge.rw_np0196_01.Holds:=by
 w_on;refine holds_law (by decide+kernel) λsaid=>?_
 o_head (kmHook kx.heap_1 ((kx.heap_1 fin.P0).map (·.1)) (λZ=>by kernel_rfl) [484,477,470,515])
 case hw=>w_witness2
 k_go0
 iterate 11 (first | (k_unfold;(try dsimp only)) | walk1 | (dsimp only;walk1))
 dsimp only;refine Internal.join4 (pM:=Internal.pr0)
  (P:=Internal.prim_ok) (X:=by assumption) (T:=by assumption) (F:=by assumption) (N:=by assumption) (hws:=by assumption) (by assumption) (by assumption) (by assumption) (by assumption)
  (Eq.trans (by assumption) (by rfl)) (Eq.trans (by assumption) (by rfl)) (Eq.trans (by assumption) (by rfl)) ⟨Nat.lt_succ_self _,Nat.lt_succ_self _,Nat.lt_succ_self _,And.left ‹_›⟩ (And.right (And.right (And.right ‹_›))) (if_pos rfl) (by assumption) rfl rfl (Internal.law_run2 (List.length_take_le _ _) ⟨_,_,_,rfl,rfl,rfl,rfl⟩) (λr h1 h2 h3 h4=>⟨Internal.good_of h1 h2 h3 (λZ=>rfl) ?_,Internal.grown4 h4⟩)
 first | wrow_post | kc_post
end
end Internal
theorem PySem.Challenge.cw_np0196_01_holds : PySem.Challenge.rw_np0196_01.Holds :=
  Internal.fin
