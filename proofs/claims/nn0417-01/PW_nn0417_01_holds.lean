import PyProof.Rows.All
import Wide.All
import OpenK.AllK
import Wide.FinOn
import PySem.Challenge.RW_nn0417_01
section
set_option autoImplicit false
set_option maxRecDepth 100000
set_option linter.all false
set_option Elab.async false
set_option genSizeOf false
set_option genInjectivity false
set_option tactic.hygienic false
set_option bootstrap.genMatcherCode false
namespace Mine.Internal
@[elab_as_elim] theorem rg.{u} {α : Sort u} {a b : α} {motive : α → Prop} (h : a = b) (x : motive b) : motive a := h ▸ x
@[elab_as_elim] theorem rs.{u} {α : Sort u} {a b : α} {motive : α → Prop} (h : b = a) (x : motive b) : motive a := h ▸ x
inductive ee2 {α β : Type} (p : α → β → Prop) : Prop where
  | mk (x : α) (y : β) (h : p x y)
inductive ee3 {α β γ : Type} (p : α → β → γ → Prop) : Prop where
  | mk (x : α) (y : β) (z : γ) (h : p x y z)
inductive ee4 {α β γ δ : Type} (p : α → β → γ → δ → Prop) : Prop where
  | mk (x : α) (y : β) (z : γ) (w : δ) (h : p x y z w)
inductive A2 (a b : Prop) : Prop where
  | mk (h1 : a) (h2 : b)
inductive A3 (a b c : Prop) : Prop where
  | mk (h1 : a) (h2 : b) (h3 : c)
inductive A4 (a b c d : Prop) : Prop where
  | mk (h1 : a) (h2 : b) (h3 : c) (h4 : d)
inductive A5 (a b c d e : Prop) : Prop where
  | mk (h1 : a) (h2 : b) (h3 : c) (h4 : d) (h5 : e)
inductive A6 (a b c d e f : Prop) : Prop where
  | mk (h1 : a) (h2 : b) (h3 : c) (h4 : d) (h5 : e) (h6 : f)
inductive A7 (a b c d e f g : Prop) : Prop where
  | mk (h1 : a) (h2 : b) (h3 : c) (h4 : d) (h5 : e) (h6 : f) (h7 : g)
theorem ee2.e {α β : Type} {p : α → β → Prop} {c : Prop} (h : ee2 p) (k : ∀ x y, p x y → c) : c := ee2.casesOn h k
theorem ee3.e {α β γ : Type} {p : α → β → γ → Prop} {c : Prop} (h : ee3 p) (k : ∀ x y z, p x y z → c) : c := ee3.casesOn h k
theorem ee4.e {α β γ δ : Type} {p : α → β → γ → δ → Prop} {c : Prop} (h : ee4 p) (k : ∀ x y z w, p x y z w → c) : c := ee4.casesOn h k
section
open Lean
def nd (k : Name) (a : Array Syntax) : Syntax := .node .none k a
def nu : Array Syntax → Syntax := nd `null
def at_ (s : String) : Syntax := .atom .none s
def ap (f : Name) (a : Array Syntax) : Syntax := nd ``Parser.Term.app #[.ident .none f.toString.toRawSubstring f [], nu a]
def sq (x : Syntax) : Array Syntax := #[at_ "", nd ``Parser.Tactic.tacticSeq #[nd ``Parser.Tactic.tacticSeq1Indented #[nu #[x]]]]
def ch : Nat → Syntax → List Syntax
  | n + 1, t => if t.getKind == `«term_∧_» then t[0] :: ch n t[2] else [t]
  | 0, t => [t]
end
end Mine.Internal
open Lean Mine.Internal in
local macro_rules (kind := Lean.Parser.Command.declaration)
  | t => do
    let some (.original ..) := t.getHeadInfo? | Macro.throwUnsupported
    let k := t[1].getKind
    if k == ``Parser.Command.definition || k == ``Parser.Command.abbrev then return t.setArg 0 (t[0].setArg 4 (nu #[nd ``Parser.Command.noncomputable #[at_ "noncomputable"]])) |>.setHeadInfo .none
    return if k == ``Parser.Command.structure || k == ``Parser.Command.inductive then t.rewriteBottomUp (·.setInfo .none) else t.setHeadInfo .none
open Lean Mine.Internal in
local macro_rules (kind := Lean.Parser.Tactic.rwSeq)
  | t => do
    let r := t[2][1][0]
    if r.isMissing || !t[3].isNone then Macro.throwUnsupported
    let s (a : Array Syntax) : Syntax := t.setArg 2 (t[2].setArg 1 (nu a))
    return nu #[nd ``Parser.Tactic.first #[at_ "", nu #[nu <| sq <| nd ``Parser.Tactic.withReducible <| sq <| nd ``Parser.Tactic.refine #[at_ "", ap (if r[0].isNone then ``rg else ``rs) #[nd ``Parser.Term.app #[r[1], nu #[nd ``Parser.Term.ellipsis #[at_ ""]]], nd ``Parser.Term.syntheticHole #[at_ "?", at_ "_"]]], nu <| sq <| (s #[r]).setKind ``Parser.Tactic.rewriteSeq]], s (t[2][1].getArgs.extract 2 1000)]
open Lean Mine.Internal in
local macro_rules (kind := «term_∧_»)
  | t => let l := ch 6 t; if l.length < 2 then Macro.throwUnsupported else return ap (`Mine.Internal ++ .mkSimple s!"A{l.length}") l.toArray
open Lean Mine.Internal in
local macro_rules (kind := «term∃_,_»)
  | t => do
    let b := t[1][0]
    let xs := b[0].getArgs
    let n := min 4 xs.size
    if n < 2 || !b[1].isNone then Macro.throwUnsupported
    return ap (`Mine.Internal ++ .mkSimple s!"ee{n}") #[nd ``Parser.Term.fun #[at_ "fun", nd ``Parser.Term.basicFun #[nu ((xs.extract 0 n).map (·[0])), nu #[], at_ "=>", if xs.size > n then t.setArg 1 (t[1].setArg 0 (b.setArg 0 (nu (xs.extract n 100)))) else t[3]]]]
open Lean Mine.Internal in
local macro_rules (kind := Lean.Parser.Tactic.delta)
  | t => do
    let a := t[1].getArgs
    let h := a[0]!
    if !t[2].isNone || a.size < 2 then Macro.throwUnsupported
    let mut r := #[]
    for i in [1:a.size] do
      if a[i]!.getId != h.getId then r := (if r.isEmpty then r else r.push (at_ ",")).push (nd ``Parser.Tactic.generalizeArg #[nu #[], nd ``Parser.Term.proj #[h, at_ ".", .node .none fieldIdxKind #[at_ s!"{i}"]], at_ "=", a[i]!])
    return nu #[nd ``Parser.Tactic.generalize #[at_ "generalize", nu r, nu #[]], ← `(tactic| try clear $(⟨h⟩))]
open Lean Mine.Internal in
local macro_rules (kind := Lean.Parser.Tactic.intros)
  | t => do
    let a := t[1].getArgs
    if a.size < 3 then Macro.throwUnsupported
    let h : Ident := ⟨a[0]!⟩
    let f := mkIdent (if a.size == 3 then ``Exists.elim else `Mine.Internal ++ .mkSimple s!"ee{a.size - 2}" ++ `e)
    return nu #[← `(tactic| refine $f $h ?_), ← `(tactic| try clear $h), nd ``Parser.Tactic.intro #[at_ "intro", nu (a.extract 1 10)]]
open PySem PySem.W PySem.W.Fast PyProof.Rows PySem.Calls
namespace Mine.Internal
def A0:=@Exists.elim
def A8:=@List.length_map
def A9:=@Nat.le_trans
def B0:=@List.length_append
def B5:=@List.mem_of_getElem?
def B6:=@PySem.wpAny_bind
def C1:=@List.map_append
def C2:=@List.getD_eq_getElem?_getD
def C3:=@Nat.le_of_ble_eq_true
def C4:=@List.getElem?_eq_getElem
def C5:=@Bool.false_ne_true
def C6:=@List.append_assoc
def C7:=@congrArg
def C9:=@List.append_nil
def D0:=@of_decide_eq_true
def D1:=@Nat.lt_of_lt_of_le
def D2:=@List.mem_map
def D3:=@List.getElem?_eq_some_iff
def D4:=@PySem.wpAny_pure
def D5:=@List.mem_singleton
def D7:=@Nat.le_refl
def D9:=@List.length_range
def F0:=@Bool.and_eq_true_iff
def F7:=@if_pos
def F8:=@List.mem_cons
def G0:=@if_neg
def G2:=@List.map_map
def G3:=@List.all_eq_true
def G4:=@List.mem_append_right
def G6:=@Int.natCast_nonneg
def G7:=@List.filter_append
def G8:=@List.mem_append
def G9:=@List.mem_append_left
def H0:=@List.size_toArray
def H1:=@Option.some.inj
def H3:=@decide_eq_true
def H4:=@List.length_filter_le
def H5:=@List.length_cons
def H8:=@Nat.lt_of_le_of_lt
def H9:=@List.getElem?_map
def I1:=@List.lookup_cons
def I4:=@List.getElem?_append_left
def I6:=@List.map_cons
def I7:=@PySem.wpAny_mono
def J0:=@List.foldl_cons
def J2:=@List.mem_map_of_mem
def J3:=@List.filter_cons_of_pos
def J4:=@List.filter_cons_of_neg
def J5:=@List.mem_filter
def J6:=@Nat.le_add_right
def J8:=@decide_eq_false
def K0:=@PySem.sizeLine_eq
def K2:=@PySem.wpAny_holding
def K3:=@Nat.zero_le
def K5:=@Nat.lt_succ_self
def K6:=@of_decide_eq_false
def K8:=@List.length_replicate
def K9:=@List.foldl_append
def M8:=@Nat.le_of_lt
def N0:=@Bool.or_eq_true_iff
def N1:=@List.mem_range
def N2:=@List.getElem?_append_right
def N6:=@PySem.Heap.get?_push_size
def N7:=@List.nodup_cons
def O0:=@beq_eq_false_iff_ne
def O1:=@Nat.succ_le_succ
def O2:=@beq_self_eq_true
def O3:=@Option.map_eq_some_iff
def O8:=@List.nodup_append
def O9:=@List.length_set
def P1:=@List.map_congr_left
def P6:=@List.mem_flatMap
def P7:=@List.cons_append
def P8:=@decide_eq_true_eq
def Q2:=@List.flatMap_singleton
def Q4:=@PySem.Heap.get?_push_of_some
def Q7:=@List.flatMap_append
def R3:=@List.filter_eq_nil_iff
def R7:=@PySem.Str.length_append
def S0:=@Nat.add_le_add
def T7:=@Int.ofNat_lt
def T9:=@PySem.wpAny_standAt
def U6:=@Nat.ne_of_lt
def U7:=@List.length_drop
def V9:=@PySem.F.slot_dict_keyiterator_next
def W0:=@Nat.add_sub_cancel_left
def W1:=@List.filter_cons
def W2:=@Bool.and_eq_true
def X0:=@Nat.le_of_eq
def X3:=@List.pairwise_map
def X5:=@List.nil_append
def X8:=@Nat.eq_of_beq_eq_true
def X9:=@List.length_singleton
def Y1:=@List.length_take
def Y3:=@Nat.zero_add
def Y4:=@Nat.lt_succ_iff_lt_or_eq
def Y5:=@List.idxOf_lt_length_iff
def Y7:=@List.forall_mem_cons
def Z4:=@Nat.or_lt_two_pow
def Z5:=@Nat.le_succ_of_le
def Z6:=@List.flatMap_cons
def Z7:=@Nat.two_pow_pos
def Z8:=@Nat.not_lt_zero
def Z9:=@Nat.le_add_left
def aE:=@Nat.add_comm
def aF:=@List.range_succ_eq_map
def aJ:=@PySem.wpAny_newObj_type
def aT:=@List.mem_or_eq_of_mem_set
def aX:=@List.getElem?_set
def aY:=@List.getElem?_modify
def aZ:=@Int.toNat_natCast
def bF:=@of_eq_true
def bG:=@bne_iff_ne
def bH:=@List.eq_of_mem_replicate
def bJ:=@List.Pairwise.imp_of_mem
def bV:=@Nat.add_le_add_left
def bW:=@List.getElem?_range
def bX:=@List.filter_flatMap
def bY:=@Array.length_toList
def bZ:=@List.take_length
def cB:=@Int.eq_ofNat_of_zero_le
def cN:=@Nat.le_succ
def cR:=@List.all_map
def cS:=@Bool.false_eq_true
def cW:=@PySem.Heap.SameBut.update
def cX:=@PySem.wpAny_call_entry
def dE:=@List.all_cons
def dF:=@List.getElem?_toArray
def dH:=@PySem.wpAny_typeNameOfWhole_keyiter
def dI:=@Nat.lt_succ_of_lt
def dJ:=@Bool.not_eq_true'
def eN:=@decide_eq_decide
def eO:=@Nat.succ_pos
def eP:=@List.not_mem_nil
def eQ:=@List.map_flatMap
def eT:=@Option.isNone_iff_eq_none
def eU:=@List.getElem?_eq_none_iff
def eV:=@List.drop_eq_getElem_cons
def fA:=@Nat.mul_le_mul_left
def fB:=@List.filter_eq_self
def fW:=@Option.map_some
def fX:=@Nat.min_eq_left
def fY:=@Bool.eq_iff_iff
def gB:=@List.zip_cons_cons
def gC:=@List.set_cons_succ
def gI:=@Option.bind_eq_some_iff
def gJ:=@Nat.lt_add_of_pos_right
def gK:=@List.map_id
def gL:=@List.getElem?_replicate
def gM:=@List.getElem?_cons_succ
def gW:=@PySem.wpAny_typeNameOf_keyiter
def gX:=@if_false
def gY:=@PySem.F.slot_str_split
def gZ:=@Ne.symm
def hJ:=@Nat.sub_self
def hM:=@Nat.lt_succ_of_le
def hU:=@Nat.le_of_succ_le
def hX:=@List.take_of_length_le
def hY:=@List.map_set
def iA:=@List.ext_getElem?
def iS:=@PySem.tupleKind_room_in1
def iT:=@PySem.call_meets
def jA:=@PySem.F.slot_dict_get
def jB:=@Nat.sub_eq_zero_of_le
def jC:=@List.getElem?_eq_none
def jD:=@List.contains_iff_mem
def jE:=@List.Perm.append_left
def jL:=@beq_iff_eq
def jM:=@Nat.not_lt
def jN:=@Nat.le_of_not_lt
def jO:=@List.any_eq_true
def kC:=@Nat.add_assoc
def kF:=@PySem.wpAny_truthy_bool
def kG:=@Prod.ext
def kH:=@Nat.pow_lt_pow_right
def kI:=@List.mem_of_mem_drop
def kJ:=@List.getElem?_zipIdx
def kK:=@List.eq_nil_of_length_eq_zero
def kL:=@PySem.Heap.lt_size
def mQ:=@PySem.mem_of_lookup
def mR:=@List.map_eq_nil_iff
def nM:=@Nat.lt_trans
def nN:=@List.map_nil
def nO:=@List.any_map
def nU:=@Nat.testBit_or
def nV:=@List.map_replicate
def nW:=@List.getElem_idxOf
def nX:=@List.drop_left
def nY:=@Int.fdiv_eq_ediv_of_nonneg
def qA:=@Array.getElem?_eq_getElem
def qE:=@Prod.mk.inj
def qF:=@Nat.lt_trichotomy
def qG:=@Int.ofNat_eq_zero
def qH:=@Function.comp_def
def qU:=@PySem.F.args_str_split_2
def qV:=@Option.isSome_iff_exists
def qW:=@Nat.succ_add_eq_add_succ
def qX:=@List.sum_cons
def qY:=@List.sublist_append_left
def qZ:=@Int.ofNat.inj
def sG:=@PySem.F.entry_str_split
def sH:=@Nat.exists_eq_add_of_le
def sI:=@List.prefix_refl
def sJ:=@List.getElem_mem
def sK:=@List.flatMap_eq_nil_iff
def sL:=@List.flatMap_def
def sM:=@List.cons_ne_nil
section
inductive PV where
 |none|bool (b:Bool)|int (i:Int)|str (s:Str)|tup (xs:List PV)|ref (a:Addr)|rY (lo hi:Int)|M7
instance u6:Nonempty PV:=⟨.none⟩
inductive PK where
 |int (i:Int)|str (s:Str)|bM (l:List Int)
 deriving DecidableEq
instance u8:Nonempty PK:=⟨.int 0⟩
def PK.pv:PK->PV
 |.int i=>.int i
 |.str s=>.str s
 |.bM l=>.tup (l.map .int)
inductive PO where
 |list (xs:List PV)
 |dict (es:List (PK×PV)) (ep:Nat)
 |inst (C dx:Addr)
 |attrs (C:Addr) (fs:List (String×PV))
instance u7:Nonempty PO:=⟨.list []⟩
abbrev PH:=Addr->Option PO
def PH.set(σ:PH)(a:Addr)(o:PO):PH:=λ b=>if b=a then some o else σ b
theorem PH.J7(σ:PH)(a:Addr)(o:PO):(σ.set a o) a=some o:=F7 rfl
theorem PH.U0(σ:PH){a b:Addr}(o:PO)(h:b≠a):(σ.set a o) b=σ b:=G0 h
def cU(o:Obj):Bool:=match o.data with
 |.seq _ _=>o.cls==.type "tuple"
 |.fields _=>o.cls==.type "range"
 |_=>false
def nS(h h':Heap):Prop:=∀a o,h.get? a=some o->cU o=true->h'.get? a=some o
theorem nS.trans{h h' Di:Heap}(x:nS h h')(y:nS h' Di):nS h Di:=λ a o e i=>y a o (x a o e i) i
theorem nS.keeps{h h':Heap}(k:∀b o,h.get? b=some o->h'.get? b=some o):nS h h':=λ a o e _=>k a o e
theorem nS.sameBut{h h':Heap}{a:Addr}{o:Obj}(s:Heap.SameBut a h h')(e:h.get? a=some o)(n:cU o=false):nS h h':=λ b p q i=>by
 have:b≠a:=by clear s;rintro rfl;rw[e]at q;cases q;rw[n]at i;cases i
 exact(s.2 b this).trans q
mutual
inductive VR(h:Heap):PV->Value->Prop
 |none:VR h .none .none
 |bool (b:Bool):VR h (.bool b) (.bool b)
 |int (i:Int) (t:Tok):VR h (.int i) (.int i t)
 |str (s:Str) (t:Tok):s.length<=sizeLine->VR h (.str s) (.str s t)
 |tup {xs:List PV} {a:Addr} {vs:List Value}:h.IsTuple a vs.toArray->bO h xs vs->xs.length<=2^25->VR h (.tup xs) (.ref a)
 |ref (a:Addr):VR h (.ref a) (.ref a)
 |rY {lo hi:Int} {a:Addr} {t u v:Tok}:IsRange h a lo hi 1 t u v->VR h (.rY lo hi) (.ref a)
inductive bO(h:Heap):List PV->List Value->Prop
 |nil:bO h [] []
 |cons {x:PV} {v:Value} {xs:List PV} {vs:List Value}:VR h x v->bO h xs vs->bO h (x::xs) (v::vs)
end
theorem IsTuple.V7{h h':Heap}{a:Addr}{is:Array Value}(m:nS h h')(x:h.IsTuple a is):h'.IsTuple a is:=
 x.imp λ o p=>⟨m a o p.1 (p.2.2.elim λ n d=>by simp[cU,p.2.1,d]),p.2⟩
theorem VR.V7{h h':Heap}(m:nS h h'){x:PV}{v:Value}(r:VR h x v):VR h' x v:=
 @VR.rec h (λ x v _=>VR h' x v) (λ x v _=>bO h' x v) .none .bool .int .str (λ e _ b r=>.tup (IsTuple.V7 m e) r b) .ref (λ e=>.rY (m _ _ e rfl)) .nil (λ _ _ a b=>.cons a b) x v r
theorem bO.V7{h h':Heap}(m:nS h h'){x:List PV}{v:List Value}(r:bO h x v):bO h' x v:=
 @bO.rec h (λ x v _=>VR h' x v) (λ x v _=>bO h' x v) .none .bool .int .str (λ e _ b r=>.tup (IsTuple.V7 m e) r b) .ref (λ e=>.rY (m _ _ e rfl)) .nil (λ _ _ a b=>.cons a b) x v r
theorem bO.length{h:Heap}{xs:List PV}{vs:List Value}(r:bO h xs vs):vs.length=xs.length:=by
 induction xs generalizing vs with
 |nil=>cases r;rfl
 |cons x xs ih=>cases r with|cons a b=>simp[ih b]
theorem bO.get{h:Heap}{xs:List PV}{vs:List Value}(r:bO h xs vs){i:Nat}{x:PV}(e:xs[i]? =some x):∃v,vs[i]? =some v∧VR h x v:=by
 induction xs generalizing vs i with
 |nil=>simp at e
 |cons y ys ih=>
  cases r with
  |cons a b=>
   cases i with
   |zero=>simp at e;clear ih;subst e;exact⟨_,rfl,a⟩
   |succ i=>simp at e;simpa using ih b e
theorem bO.append{h:Heap}{xs ys:List PV}{vs us:List Value}(r:bO h xs vs)(q:bO h ys us):bO h (xs++ys) (vs++us):=by
 induction xs generalizing vs with
 |nil=>cases r;exact q
 |cons x xs ih=>cases r with|cons a b=>exact .cons a (ih b)
theorem bO.take{h:Heap}{xs:List PV}{vs:List Value}(r:bO h xs vs)(n:Nat):bO h (xs.take n) (vs.take n):=by
 induction xs generalizing vs n with
 |nil=>cases r;simp;exact .nil
 |cons x xs ih=>cases r with|cons a b=>cases n with|zero=>exact .nil|succ n=>exact .cons a (ih b n)
theorem bO.drop{h:Heap}{xs:List PV}{vs:List Value}(r:bO h xs vs)(n:Nat):bO h (xs.drop n) (vs.drop n):=by
 induction xs generalizing vs n with
 |nil=>cases r;simp;exact .nil
 |cons x xs ih=>cases r with|cons a b=>cases n with|zero=>exact .cons a b|succ n=>exact ih b n
theorem bO.set{h:Heap}{xs:List PV}{vs:List Value}(r:bO h xs vs)(n:Nat){x:PV}{v:Value}(q:VR h x v):bO h (xs.set n x) (vs.set n v):=by
 induction xs generalizing vs n with
 |nil=>cases r;exact .nil
 |cons y ys ih=>cases r with|cons a b=>cases n with|zero=>exact .cons q b|succ n=>exact .cons a (ih b n)
structure Wd where
 prog:Program
 w:World
 K:Frag
 h₀:Heap
 mg:Str->Option Value
 mb:Str->Option Value
 xN:Addr
 PJ:List Int
abbrev Wd.M(W:Wd):Model:=model W.prog W.w
abbrev Wd.ik(W:Wd):KeyKind W.prog W.w Int:=intKind W.prog W.w
abbrev Wd.sk(W:Wd):KeyKind W.prog W.w Str:=strKind W.prog W.w
abbrev Wd.tk(W:Wd):HeapKind W.prog W.w (List Int):=tupleKind W.ik
inductive KV{K:Type}(f:K->PK)(h:Heap):List (PK×PV)->List (K×Value)->Prop
 |nil:KV f h [] []
 |cons {k:K} {x:PV} {v:Value} {r:List (PK×PV)} {q:List (K×Value)}:VR h x v->KV f h r q->KV f h ((f k,x)::r) ((k,v)::q)
inductive KT(W:Wd)(h:Heap):List (PK×PV)->List (List Int×Addr×Value)->Prop
 |nil:KT W h [] []
 |cons {k:List Int} {x:PV} {a:Addr} {v:Value} {r:List (PK×PV)} {q:List (List Int×Addr×Value)}:IsTupleKey W.ik h k a∧k.length<=2^25->VR h x v->KT W h r q->KT W h ((.bM k,x)::r) ((k,a,v)::q)
inductive DR(W:Wd)(h:Heap)(n:Nat):List (PK×PV)->Obj->Prop
 |i {es:List (PK×PV)} {ds:Array DictEntry} {kvs:List (Int×Value)}:KV .int h es kvs->KeysOf W.ik ds->Pairs W.ik ds.toList kvs->(kvs.map (·.1)).Nodup->DR W h n es ⟨.type "dict",none,.dict ds n,#[]⟩
 |s {es:List (PK×PV)} {ds:Array DictEntry} {kvs:List (Str×Value)}:KV .str h es kvs->KeysOf W.sk ds->Pairs W.sk ds.toList kvs->(kvs.map (·.1)).Nodup->DR W h n es ⟨.type "dict",none,.dict ds n,#[]⟩
 |t {es:List (PK×PV)} {ds:Array DictEntry} {xs:List (List Int×Addr×Value)}:KT W h es xs->ds.toList=xs.map (entryOfKey W.tk)->(xs.map (·.1)).Nodup->DR W h n es ⟨.type "dict",none,.dict ds n,#[]⟩
structure xL(K:Frag)(C:Addr)(name:Str):Prop where
 ga:findIn K (.ref C) "__getattribute__"=some (some (.builtin "object.__getattribute__"))
 sa:findIn K (.ref C) "__setattr__"=some (some (.builtin "object.__setattr__"))
 no:findIn K (.ref C) name=some none
 dict:hasDictIn K C=true
 over:plainOver K C=true
inductive aI(W:Wd)(h:Heap)(C:Addr):List (String×PV)->List DictEntry->Prop
 |nil:aI W h C [] []
 |cons {f:String} {x:PV} {e:DictEntry} {fs:List (String×PV)} {es:List DictEntry}:(∃t,e.key=.str (Str.ofString f) t)->VR h x e.val->xL W.K C (Str.ofString f)->aI W h C fs es->aI W h C ((f,x)::fs) (e::es)
inductive OR(W:Wd)(h:Heap):PO->Obj->Prop
 |list {xs:List PV} {vs:List Value} {n:Nat}:bO h xs vs->xs.length<=2^25->OR W h (.list xs) ⟨.type "list",none,.seq vs.toArray n,#[]⟩
 |dict {es:List (PK×PV)} {n:Nat} {ob:Obj}:DR W h n es ob->OR W h (.dict es n) ob
 |inst {C dx:Addr}:OR W h (.inst C dx) ⟨.ref C,some dx,.plain,#[]⟩
 |attrs {C:Addr} {fs:List (String×PV)} {es:List DictEntry} {n:Nat}:aI W h C fs es->OR W h (.attrs C fs) ⟨.type "dict",none,.dict es.toArray n,#[]⟩
theorem KV.V7{K:Type}{f:K->PK}{h h':Heap}(m:nS h h'){es:List (PK×PV)}{q:List (K×Value)}(x:KV f h es q):KV f h' es q:=by
 induction x with
 |nil=>exact .nil
 |cons a _ ih=>exact .cons (a.V7 m) ih
theorem IsTupleKey.V7{W:Wd}{h h':Heap}(m:nS h h'){l:List Int}{a:Addr}(e:IsTupleKey W.ik h l a):IsTupleKey W.ik h' l a:=by
 intros e o hZ;intros hZ it Q0;intros Q0 n P4;generalize P4.1=a;generalize P4.2=rZ;generalize rZ.1=b;generalize rZ.2=nR;delta nR c d;try clear rZ;try clear P4;exact⟨o,it,n,m _ _ a (by simp[cU,b,c]),b,c,d⟩
theorem KT.V7{W:Wd}{h h':Heap}(m:nS h h'){es:List (PK×PV)}{q:List (List Int×Addr×Value)}(x:KT W h es q):KT W h' es q:=by
 induction x with
 |nil=>exact .nil
 |cons a b _ ih=>exact .cons ⟨IsTupleKey.V7 m a.1,a.2⟩ (b.V7 m) ih
theorem DR.V7{W:Wd}{h h':Heap}{n:Nat}(m:nS h h'){es:List (PK×PV)}{ob:Obj}(x:DR W h n es ob):DR W h' n es ob:=by
 cases x with
 |i a b c d=>exact .i (a.V7 m) b c d
 |s a b c d=>exact .s (a.V7 m) b c d
 |t a b c=>exact .t (a.V7 m) b c
theorem aI.V7{W:Wd}{h h':Heap}(m:nS h h'){C:Addr}{fs:List (String×PV)}{es:List DictEntry}(x:aI W h C fs es):aI W h' C fs es:=by
 induction x with
 |nil=>exact .nil
 |cons a b c _ ih=>exact .cons a (b.V7 m) c ih
theorem OR.V7{W:Wd}{h h':Heap}(m:nS h h'){o:PO}{ob:Obj}(x:OR W h o ob):OR W h' o ob:=by
 cases x with
 |list r b=>exact .list (r.V7 m) b
 |dict r=>exact .dict (r.V7 m)
 |inst=>exact .inst
 |attrs r=>exact .attrs (r.V7 m)
theorem OR.MU{W:Wd}{h:Heap}{o:PO}{ob:Obj}(x:OR W h o ob):cU ob=false:=by
 cases x with
 |dict r=>cases r<;>rfl
 |_=>rfl
theorem OR.WW{W:Wd}{h:Heap}{o:PO}{ob:Obj}(x:OR W h o ob):ob.isFreed=false:=by
 cases x with
 |dict r=>cases r<;>rfl
 |_=>rfl
structure SR(W:Wd)(σ:PH)(h:Heap):Prop where
 obj:∀a o,σ a=some o->∃ob,h.get? a=some ob∧OR W h o ob
 keep:∀b o,W.h₀.get? b=some o->h.get? b=some o
 new:∀a,σ a≠none->W.h₀.get? a=none
structure kB(σ:PH)(h:Heap)(B9:PH)(h':Heap):Prop where
 bN:∀b o,h.get? b=some o->σ b=none->h'.get? b=some o∧B9 b=none
 ID:∀b,σ b≠none->B9 b≠none
theorem kB.refl(σ:PH)(h:Heap):kB σ h σ h:=⟨λ _ _ e n=>⟨e,n⟩,λ _ e=>e⟩
theorem kB.trans{σ B4 H6:PH}{h mF iM:Heap}(x:kB σ h B4 mF)(y:kB B4 mF H6 iM):kB σ h H6 iM:=
 ⟨λ b o e n=>let⟨e1,n1⟩:=x.bN b o e n;y.bN b o e1 n1,λ b e=>y.ID b (x.ID b e)⟩
theorem kB.V7{W:Wd}{σ B9:PH}{h h':Heap}(S:SR W σ h)(x:kB σ h B9 h'):nS h h':=λ a o e i=>by
 cases q:σ a with
 |none=>exact(x.bN a o e q).1
 |some po=>
  refine A0 (S.obj a po q) λ ob hZ=>?_;delta hZ e' r
  rw[e]at e';cases e'
  rw[r.MU]at i;cases i
theorem kB.keeps{σ:PH}{h h':Heap}(k:∀b o,h.get? b=some o->h'.get? b=some o):kB σ h σ h':=⟨λ b o e n=>⟨k b o e,n⟩,λ _ e=>e⟩
theorem SR.keeps{W:Wd}{σ:PH}{h h':Heap}(S:SR W σ h)(k:∀b o,h.get? b=some o->h'.get? b=some o):SR W σ h':=
 ⟨λ a o e=>let⟨ob,e1,r⟩:=S.obj a o e;⟨ob,k _ _ e1,r.V7 (.keeps k)⟩,λ b o e=>k b o (S.keep b o e),S.new⟩
theorem Q6(h:Heap)(o:Obj):∀b p,h.get? b=some p->(h.push o).get? b=some p:=λ _ _ e=>Q4 _ e
theorem W7{h:Heap}{a:Addr}(q:h.objs.size<=a):h.get? a=none:=by
 cases e:h.get? a with
 |none=>rfl
 |some o=>exact absurd (kL e) (jM.mpr q)
theorem SR.fresh{W:Wd}{σ:PH}{h:Heap}(S:SR W σ h){a:Addr}(q:h.get? a=none):σ a=none:=by
 cases e:σ a with
 |none=>rfl
 |some o=>refine A0 (S.obj a o e) λ ob hZ=>?_;delta hZ e';rw[q]at e';cases e'
theorem SR.fK{W:Wd}{σ:PH}{h:Heap}(S:SR W σ h){a:Addr}(q:h.get? a=none):W.h₀.get? a=none:=by
 cases e:W.h₀.get? a with
 |none=>rfl
 |some o=>rw[S.keep a o e]at q;cases q
theorem SR.alloc{W:Wd}{σ:PH}{h h':Heap}{a:Addr}{o:PO}{ob:Obj}(S:SR W σ h)(q:h.get? a=none)(k:∀b p,h.get? b=some p->h'.get? b=some p)
  (e:h'.get? a=some ob)(r:OR W h' o ob):SR W (σ.set a o) h'∧kB σ h (σ.set a o) h'∧σ a=none:=by
 refine⟨⟨λ b po e'=>?_,λ b p e'=>k _ _ (S.keep b p e'),λ b n=>?_⟩,⟨λ b p e' n=>⟨k _ _ e',?_⟩,λ b n=>?_⟩,S.fresh q⟩
 ·by_cases hb:b=a
  ·clear q;subst hb;rw[PH.J7]at e';cases e';exact⟨ob,e,r⟩
  ·rw[PH.U0 _ _ hb]at e';exact(S.keeps k).obj b po e'
 ·by_cases hb:b=a
  ·clear n;subst hb;exact S.fK q
  ·rw[PH.U0 _ _ hb]at n;exact S.new b n
 ·have:b≠a:=by clear e n;rintro rfl;rw[q]at e';cases e'
  rw[PH.U0 _ _ this];exact n
 ·by_cases hb:b=a
  ·clear n;subst hb;rw[PH.J7];simp
  ·rw[PH.U0 _ _ hb];exact n
theorem SR.upd{W:Wd}{σ:PH}{h h':Heap}{a:Addr}{o o':PO}{Vs:Obj}(S:SR W σ h)(q:σ a=some o)(k:Heap.SameBut a h h')
  (e:h'.get? a=some Vs)(r:OR W h o' Vs):SR W (σ.set a o') h'∧kB σ h (σ.set a o') h':=by
 refine A0 (S.obj a o q) λ ob hZ=>?_;delta hZ ea ra
 have m:nS h h':=nS.sameBut k ea ra.MU
 refine⟨⟨λ b po e'=>?_,λ b p e'=>?_,λ b n=>?_⟩,⟨λ b p e' n=>?_,λ b n=>?_⟩⟩
 ·by_cases hb:b=a
  ·clear ea k q;subst hb;rw[PH.J7]at e';cases e';exact⟨Vs,e,r.V7 m⟩
  ·rw[PH.U0 _ _ hb]at e'
   refine A0 (S.obj b po e') λ o2 hZ=>?_;delta hZ e2 r2
   exact⟨o2,(k.2 b hb).trans e2,r2.V7 m⟩
 ·have:b≠a:=by clear ea k;rintro rfl;rw[S.new b (by rw[q];simp)]at e';cases e'
  exact(k.2 b this).trans (S.keep b p e')
 ·by_cases hb:b=a
  ·clear ea k;subst hb;exact S.new b (by rw[q];simp)
  ·rw[PH.U0 _ _ hb]at n;exact S.new b n
 ·have:b≠a:=by clear ea k e;rintro rfl;rw[q]at n;cases n
  exact⟨(k.2 b this).trans e',by rw[PH.U0 _ _ this];exact n⟩
 ·by_cases hb:b=a
  ·clear ea k;subst hb;rw[PH.J7];simp
  ·rw[PH.U0 _ _ hb];exact n
def Sm(s s':Shared):Prop:=∃h tk,s'={s with heap:=h,toks:=tk}
theorem Sm.refl(s:Shared):Sm s s:=⟨s.heap,s.toks,rfl⟩
theorem Sm.trans{s s' Zd:Shared}(x:Sm s s')(y:Sm s' Zd):Sm s Zd:=by intros x h t hZ;obtain rfl:=hZ;intros y h' t' hZ;obtain rfl:=hZ;exact⟨h',t',rfl⟩
theorem Sm.mk'(s:Shared)(h:Heap)(t:Tok):Sm s {s with heap:=h,toks:=t}:=⟨h,t,rfl⟩
structure Rm(n:Nat)(A:Around):Prop where
 hd:A.handled=none
 dp:A.depth+8*n<=850
 un:A.units+40*n<=9000
 fr:∃e o,A.frames=some (e::o)∧e.globals=mainGlobals∧e.builtins=builtinsNs∧e.scope.isGenerator=false∧e.scope.isCoroutine=false
structure Nf(n:Nat)(A:Around):Prop where
 hd:A.handled=none
 dp:A.depth+8*n<=850
 un:A.units+40*n<=9000
 fr:∃l,A.frames=some l
theorem Rm.Yx{n:Nat}{A:Around}(x:Rm n A):Nf n A:=⟨x.hd,x.dp,x.un,let⟨_,_,h,_,_,_,_⟩:=x.fr;⟨_,h⟩⟩
theorem Nf.depth{n:Nat}{A:Around}(x:Nf n A):A.depth<recursionLimit:=by have:=x.dp;show _<1000;lia
theorem Rm.cLine{n:Nat}{A:Around}(x:Rm n A):A.units+800<cLine:=by have:=x.un;have:=cLine_is;lia
theorem Rm.depth{n:Nat}{A:Around}(x:Rm n A):A.depth<recursionLimit:=by have:=x.dp;show _<1000;lia
def K4(W:Wd)(σ:PH)(s:Shared)(Q:PV->PH->Prop):Value->Shared->Prop:=λ v s'=>
 ∃pv B9,Q pv B9∧VR s'.heap pv v∧SR W B9 s'.heap∧kB σ s.heap B9 s'.heap∧Sm s s'
def J9(W:Wd)(n:Nat)(f:Value)(args:List PV)(σ:PH)(Q:PV->PH->Prop):Prop:=
 ∀A s vs,Rm n A->SR W σ s.heap->bO s.heap args vs->wpAny W.M A (call f vs) (K4 W σ s Q) (λ _ _=>False) s
def iJ{β:Type}(d:β)(g:Int->β)(x:PV):β:=PV.casesOn (motive_1:=λ _=>β) x d (λ _=>d) g (λ _=>d) (λ _=>d) (λ _=>d) (λ _ _=>d) d
theorem dC{β:Type}{P:PV->Prop}{r d:β}{g:Int->β}(x:PV)(h:iJ d g x=r)(z:d=r->P x)(k:∀a,g a=r->P (.int a)):P x:=PV.casesOn (motive_1:=λ x=>iJ d g x=r->(d=r->P x)->P x) x (λ h z=>z h) (λ _ h z=>z h) (λ a h _=>k a h) (λ _ h z=>z h) (λ _ h z=>z h) (λ _ h z=>z h) (λ _ _ h z=>z h) (λ h z=>z h) h z
def onStr{β:Type}(d:β)(g:Str->β)(x:PV):β:=PV.casesOn (motive_1:=λ _=>β) x d (λ _=>d) (λ _=>d) g (λ _=>d) (λ _=>d) (λ _ _=>d) d
theorem tQ{β:Type}{P:PV->Prop}{r d:β}{g:Str->β}(x:PV)(h:onStr d g x=r)(z:d=r->P x)(k:∀a,g a=r->P (.str a)):P x:=PV.casesOn (motive_1:=λ x=>onStr d g x=r->(d=r->P x)->P x) x (λ h z=>z h) (λ _ h z=>z h) (λ _ h z=>z h) (λ a h _=>k a h) (λ _ h z=>z h) (λ _ h z=>z h) (λ _ _ h z=>z h) (λ h z=>z h) h z
def AR{β:Type}(d:β)(g:(List PV)->β)(x:PV):β:=PV.casesOn (motive_1:=λ _=>β) x d (λ _=>d) (λ _=>d) (λ _=>d) g (λ _=>d) (λ _ _=>d) d
theorem AQ{β:Type}{P:PV->Prop}{r d:β}{g:(List PV)->β}(x:PV)(h:AR d g x=r)(z:d=r->P x)(k:∀a,g a=r->P (.tup a)):P x:=PV.casesOn (motive_1:=λ x=>AR d g x=r->(d=r->P x)->P x) x (λ h z=>z h) (λ _ h z=>z h) (λ _ h z=>z h) (λ _ h z=>z h) (λ a h _=>k a h) (λ _ h z=>z h) (λ _ _ h z=>z h) (λ h z=>z h) h z
def nJ{β:Type}(d:β)(g:Addr->β)(x:PV):β:=PV.casesOn (motive_1:=λ _=>β) x d (λ _=>d) (λ _=>d) (λ _=>d) (λ _=>d) g (λ _ _=>d) d
theorem dA{β:Type}{P:PV->Prop}{r d:β}{g:Addr->β}(x:PV)(h:nJ d g x=r)(z:d=r->P x)(k:∀a,g a=r->P (.ref a)):P x:=PV.casesOn (motive_1:=λ x=>nJ d g x=r->(d=r->P x)->P x) x (λ h z=>z h) (λ _ h z=>z h) (λ _ h z=>z h) (λ _ h z=>z h) (λ _ h z=>z h) (λ a h _=>k a h) (λ _ _ h z=>z h) (λ h z=>z h) h z
def iI{β:Type}(d:β)(g:(List PV)->β)(o:Option PO):β:=Option.casesOn (motive:=λ _=>β) o d λ p=>PO.casesOn (motive:=λ _=>β) p g (λ _ _=>d) (λ _ _=>d) (λ _ _=>d)
theorem dB{β:Type}{P:Option PO->Prop}{r d:β}{g:(List PV)->β}(o:Option PO)(h:iI d g o=r)(z:d=r->P o)(k:∀a,g a=r->P (some (.list a))):P o:=Option.casesOn (motive:=λ o=>iI d g o=r->(d=r->P o)->P o) o (λ h z=>z h) (λ p=>PO.casesOn (motive:=λ p=>iI d g (some p)=r->(d=r->P (some p))->P (some p)) p (λ a h _=>k a h) (λ _ _ h z=>z h) (λ _ _ h z=>z h) (λ _ _ h z=>z h)) h z
def cF{β:Type}(d:β)(g:(List (PK×PV))->Nat->β)(o:Option PO):β:=Option.casesOn (motive:=λ _=>β) o d λ p=>PO.casesOn (motive:=λ _=>β) p (λ _=>d) g (λ _ _=>d) (λ _ _=>d)
theorem lD{β:Type}{P:Option PO->Prop}{r d:β}{g:(List (PK×PV))->Nat->β}(o:Option PO)(h:cF d g o=r)(z:d=r->P o)(k:∀a b,g a b=r->P (some (.dict a b))):P o:=Option.casesOn (motive:=λ o=>cF d g o=r->(d=r->P o)->P o) o (λ h z=>z h) (λ p=>PO.casesOn (motive:=λ p=>cF d g (some p)=r->(d=r->P (some p))->P (some p)) p (λ _ h z=>z h) (λ a b h _=>k a b h) (λ _ _ h z=>z h) (λ _ _ h z=>z h)) h z
def lC{β:Type}(d:β)(g:Addr->Addr->β)(o:Option PO):β:=Option.casesOn (motive:=λ _=>β) o d λ p=>PO.casesOn (motive:=λ _=>β) p (λ _=>d) (λ _ _=>d) g (λ _ _=>d)
theorem AS{β:Type}{P:Option PO->Prop}{r d:β}{g:Addr->Addr->β}(o:Option PO)(h:lC d g o=r)(z:d=r->P o)(k:∀a b,g a b=r->P (some (.inst a b))):P o:=Option.casesOn (motive:=λ o=>lC d g o=r->(d=r->P o)->P o) o (λ h z=>z h) (λ p=>PO.casesOn (motive:=λ p=>lC d g (some p)=r->(d=r->P (some p))->P (some p)) p (λ _ h z=>z h) (λ _ _ h z=>z h) (λ a b h _=>k a b h) (λ _ _ h z=>z h)) h z
def tR{β:Type}(d:β)(g:Addr->(List (String×PV))->β)(o:Option PO):β:=Option.casesOn (motive:=λ _=>β) o d λ p=>PO.casesOn (motive:=λ _=>β) p (λ _=>d) (λ _ _=>d) (λ _ _=>d) g
theorem AT{β:Type}{P:Option PO->Prop}{r d:β}{g:Addr->(List (String×PV))->β}(o:Option PO)(h:tR d g o=r)(z:d=r->P o)(k:∀a b,g a b=r->P (some (.attrs a b))):P o:=Option.casesOn (motive:=λ o=>tR d g o=r->(d=r->P o)->P o) o (λ h z=>z h) (λ p=>PO.casesOn (motive:=λ p=>tR d g (some p)=r->(d=r->P (some p))->P (some p)) p (λ _ h z=>z h) (λ _ _ h z=>z h) (λ _ _ h z=>z h) (λ a b h _=>k a b h)) h z
section
variable{h:Heap}{P:Value->Prop}{v:Value}
theorem VR.WX(r:VR h .none v)(k:P .none):P v:=by cases r;exact k
theorem VR.Si{b:Bool}(r:VR h (.bool b) v)(k:P (.bool b)):P v:=by cases r;exact k
theorem VR.mD{i:Int}(r:VR h (.int i) v)(k:∀t,P (.int i t)):P v:=by cases r;exact k _
theorem VR.qC{s:Str}(r:VR h (.str s) v)(k:∀t,s.length<=sizeLine->P (.str s t)):P v:=by cases r;exact k _ ‹_›
theorem VR.tF{a:Addr}(r:VR h (.ref a) v)(k:P (.ref a)):P v:=by cases r;exact k
theorem VR.xM{xs:List PV}(r:VR h (.tup xs) v)(k:∀a vs,h.IsTuple a (List.toArray vs)->bO h xs vs->xs.length<=2^25->P (.ref a)):P v:=by cases r;exact k _ _ ‹_› ‹_› ‹_›
end
theorem Tl{k:Nat}(h:k<32768):(k:Int).natAbs<10^7:=D1 h (C3 rfl)
theorem XB(d l:Nat):min d l+(l - d+1)=l+1:=by rw[<-kC,Nat.min_comm,aE (min l d),Nat.sub_add_min_cancel]
theorem DV{a b c n:Nat}(h:a<b - c)(hb:b<=n):a<=n:=M8 (D1 h (A9 (Nat.sub_le ..) hb))
theorem Zn{C:Nat->Prop}{d:Nat}(h:d<2)(h0:C 0)(h1:C 1):C d:=by
 cases d with
 |zero=>exact h0
 |succ d=>cases d with
  |zero=>exact h1
  |succ d=>exact absurd h (Nat.not_lt_of_le (Z9 2 d))
end
mutual
inductive PE where
 |none|bool (b:Bool)|int (i:Int)|str (s:String)
 |loc (i:Nat)
 |gi (k:Nat) (i:Int)
 |gs (k:Nat) (xs:List String)
 |attr (o:PE) (f:String)
 |sub (o i:PE)
 |wP (o lo hi:PE)
 |absent
 |bin (op:Operator) (a b:PE)
 |neg (a:PE)
 |cmp (op:CmpOp) (a b:PE)
 |KE (op CQ:CmpOp) (a b c:PE)
 |not (a:PE)
 |and (a b:PE)|or (a b:PE)
 |ite (c a b:PE)
 |tup (es:uL)|list (es:uL)|dO
 |call (k:Nat) (f:Value) (args:uL)
 |H2 (o:PE) (f:String) (args:uL)
 |sup (f:Nat) (args:uL)
 |comp (elt:PE) (tg:Nat) (it cond:PE)
 |any
inductive uL where
 |nil|cons (e:PE) (r:uL)
end
inductive Fl where
 |next|brk|cont|ret (v:PV)
set_option genCtorIdx false in
mutual
inductive PS where
 |expr (e:PE)
 |asg (i:Nat) (e:PE)
 |pJ (is:List Nat) (e:PE)
 |Q1 (o:PE) (f:String) (e:PE)
 |aM (o i e:PE)
 |ite (c:PE) (a b:V0)
 |IA (c:PE) (b:V0)
 |R6 (i:Nat) (it:PE) (b:V0)
 |rS (is:List Nat) (it:PE) (b:V0)
 |forR (i:Nat) (it:PE) (b:V0)
 |ret (e:PE)|WH|cont|pass|any
inductive V0 where
 |nil|cons (s:PS) (r:V0)
end
def zI(σ:PH):PV->Option Bool
 |.none=>some false
 |.bool b=>some b
 |.int i=>some (decide (i≠0))
 |.str s=>some (decide (s.length≠0))
 |.ref a=>iI none (λ xs=>some (!xs.isEmpty)) (σ a)
 |_=>none
def xP(xs:List PV)(i:Int):Option PV:=if 0<=i then xs[i.toNat]? else if 0<=(xs.length:Int)+i then xs[((xs.length:Int)+i).toNat]? else none
def intsOf:List PV->Option (List Int)
 |[]=>some []
 |.int i::r=>(intsOf r).map (i::·)
 |_=>none
theorem rP(l:List Int):intsOf (l.map .int)=some l:=by
 induction l with
 |nil=>rfl
 |cons i r ih=>exact C7 (·.map (i::·)) ih
theorem TF{xs:List PV}{l:List Int}(h:intsOf xs=some l):xs=l.map .int:=by
 induction xs generalizing l with
 |nil=>cases h;rfl
 |cons x r ih=>
  cases x with
  |int i=>
   refine A0 (O3.mp h) λ l' hZ=>?_;generalize hZ.1=e;clear h;obtain rfl:=hZ.2;try clear hZ
   rw[ih e];rfl
  |_=>cases h
def keyOf:PV->Option PK
 |.int i=>some (.int i)
 |.str s=>some (.str s)
 |.tup xs=>(intsOf xs).map .bM
 |_=>none
def gD(σ:PH)(o k:PV):Option PV:=
 nJ (AR none (λ xs=>iJ none (xP xs) k) o) (λ a=>cF (iI none (λ xs=>iJ none (xP xs) k) (σ a)) (λ es _=>(keyOf k).bind λ k=>es.lookup k) (σ a)) o
def fld(σ:PH)(o:PV)(f:String):Option PV:=nJ none (λ a=>lC none (λ C dx=>tR none (λ D fs=>if D=C then fs.lookup f else none) (σ dx)) (σ a)) o
def HA:PK->Bool
 |.int _=>true
 |_=>false
def jT:PK->Bool
 |.str _=>true
 |_=>false
def jR:PK->Bool
 |.bM _=>true
 |_=>false
def itemsOf(σ:PH):PV->Option (List PV)
 |.ref a=>cF (iI none some (σ a)) (λ es _=>if es.all (λ p=>!jT p.1)=true then some (es.map (·.1.pv))else none) (σ a)
 |.tup xs=>some xs
 |.rY lo hi=>some ((List.range (hi - lo).toNat).map λ i:Nat=>.int (lo+(i:Int)))
 |_=>none
def scalar:PV->Bool
 |.int _=>true
 |.str _=>true
 |_=>false
def eZ:PV->Bool
 |.tup xs=>xs.all scalar
 |x=>scalar x
def vV(a b:PV):Bool:=iJ (onStr false (λ s=>onStr false (λ t=>decide (s=t)) b) a) (λ i=>iJ false (λ j=>decide (i=j)) b) a
def DH:List PV->List PV->Bool
 |[],[]=>true
 |a::r,b::q=>vV a b&&DH r q
 |_,_=>false
def KB(a b:PV):Bool:=AR (vV a b) (λ xs=>AR false (DH xs) b) a
def BR:List PV->List PV->Bool
 |[],[]=>true
 |a::r,b::q=>KB a b&&BR r q
 |_,_=>false
def DB(x:PV)(xs:List PV):Option Bool:=if And (eZ x=true) (xs.all eZ=true)then some (xs.any λ y=>KB y x)else none
def Ii(σ:PH)(a b:Addr):Option Bool:=iI none (λ xs=>iI none (λ ys=>if And (xs.all eZ=true) (ys.all eZ=true)then some (BR xs ys)else none) (σ b)) (σ a)
def Bi(σ:PH)(x y:PV):Option Bool:=nJ (if And (scalar x=true) (scalar y=true)then some (vV x y)else none) (λ a=>nJ none (Ii σ a) y) x
def U3(k:PK)(es:List (PK×PV)):Bool:=match k with
 |.int _=>es.all (HA ·.1)
 |.str _=>es.all (jT ·.1)
 |.bM _=>es.all (jR ·.1)
def QO(σ:PH)(x y:PV):Option Bool:=
 nJ (AR none (DB x) y) (λ a=>cF (iI none (DB x) (σ a)) (λ es _=>(keyOf x).bind λ k=>if U3 k es=true then some (es.lookup k).isSome else none) (σ a)) y
def isNone:PV->Bool
 |.none=>true
 |_=>false
def XM(f:Int->Int->Bool)(x y:PV):Option Bool:=iJ none (λ i=>iJ none (λ j=>some (f i j)) y) x
def iP(σ:PH)(op:CmpOp)(a b:PV):Option Bool:=match op with
 |.Eq=>Bi σ a b
 |.NotEq=>(Bi σ a b).map (!·)
 |.Lt=>XM (λ i j=>decide (i<j)) a b
 |.LtE=>XM (λ i j=>decide (i<=j)) a b
 |.Gt=>XM (λ i j=>decide (j<i)) a b
 |.GtE=>XM (λ i j=>decide (j<=i)) a b
 |.Is=>if isNone b=true then some (isNone a)else none
 |.IsNot=>if isNone b=true then some (!isNone a)else none
 |.In=>QO σ a b
 |.NotIn=>(QO σ a b).map (!·)
def IO(i:Int):Prop:=And (-(2:Int)^62<i) (i<(2:Int)^62)
def Ms(op:Operator)(Q:PV->Prop)(a b:Int):Prop:=match op with
 |.Add=>Q (.int (a+b))
 |.Sub=>Q (.int (a - b))
 |.Mult=>(IO a∨IO b)∧Q (.int (a*b))
 |.FloorDiv=>b≠0∧Q (.int (Int.fdiv a b))
 |.Mod=>b≠0∧Q (.int (Int.fmod a b))
 |.BitOr=>Q (.int (Builtin.bitOr a b))
 |.BitAnd=>Q (.int (Builtin.bitAnd a b))
 |.LShift=>0<=b∧b<=1000000∧IO a∧Q (.int (a*2^b.toNat))
 |.RShift=>0<=b∧Q (.int (Int.fdiv a (2^b.toNat)))
 |_=>False
def mM(op:Operator)(σ:PH)(Q:PV->PH->Prop)(x y:PV):Prop:=
 iJ (onStr (nJ False (λ a=>nJ (iJ False (λ n=>op=.Mult∧∃xs,σ a=some (.list xs)∧0<=n∧n<=2^24∧xs.length=1∧∀c,σ c=none->Q (.ref c) (σ.set c (.list ((List.replicate n.toNat xs).flatten)))) y)
   (λ b=>op=.Add∧∃xs ys,σ a=some (.list xs)∧σ b=some (.list ys)∧xs.length+ys.length<=2^24∧∀c,σ c=none->Q (.ref c) (σ.set c (.list (xs++ys)))) y) x)
  (λ a=>onStr False (λ b=>op=.Add∧a.length+b.length<=2^24∧Q (.str (a++b)) σ) y) x)
  (λ a=>iJ False (Ms op (λ v=>Q v σ) a) y) x
def Qg(lo:Option Int):Nat:=(lo.map Int.toNat).getD 0
def Qx(hi:Option Int)(n:Nat):Nat:=(hi.map Int.toNat).getD n
def fD{α:Type}(xs:List α)(lo hi:Option Int):List α:=(xs.take (Qx hi xs.length)).drop (Qg lo)
def DA:Option Int->Bool
 |some i=>decide (And (0<=i) (i<2^62))
 |none=>true
def Fy:PV->Option (Option Int)
 |.none=>some none
 |.int i=>some (some i)
 |_=>none
def Pi(W:Wd)(σ:PH)(lo hi:PV)(Q:PV->PH->Prop):PV->Prop
 |.ref a=>∃xs l h,(σ a=some (.list xs)∨a=W.xN∧xs=W.PJ.map .int)∧Fy lo=some l∧Fy hi=some h∧DA l=true∧DA h=true∧xs.length<=2^24∧∀c,σ c=none->Q (.ref c) (σ.set c (.list (fD xs l h)))
 |.str s=>∃l h,Fy lo=some l∧Fy hi=some h∧Q (.str (Txt.slice s l h)) σ
 |_=>False
def QE:List (String×String):=[("append","list.append"),("extend","list.extend"),("insert","list.insert"),("pop","list.pop"),("index","list.index")]
def HI:List (String×String):=[("get","dict.get")]
def GB:List (String×String):=[("join","str.join"),("ljust","str.ljust"),("strip","str.strip"),("find","str.find"),("startswith","str.startswith"),("split","str.split")]
abbrev T(α:Type):=List PV->PH->(α->PH->Prop)->Prop
structure WP where
 v:T PV
 t:T Bool
def vN(v:T PV):WP:=⟨v,λ ρ σ Q=>v ρ σ λ x B9=>∃b,zI B9 x=some b∧Q b B9⟩
def pD(V4:PH->Prop)(turn:PV->PH->(Option PV->PH->Prop)->Prop):List PV->List PV->PH->(List PV->PH->Prop)->Prop
 |[],acc,σ,Q=>Q acc σ
 |x::r,acc,σ,Q=>turn x σ λ y B9=>V4 B9∧pD V4 turn r (match y with|some y=>acc++[y]|none=>acc) B9 Q
abbrev TS:=List PV->PH->(Fl->List PV->PH->Prop)->Prop
def jV(V4:PH->Prop)(turn:PV->TS):List PV->TS
 |[],ρ,σ,Q=>Q .next ρ σ
 |x::r,ρ,σ,Q=>turn x ρ σ λ fl O5 B9=>match fl with
  |.next=>V4 B9∧jV V4 turn r O5 B9 Q
  |.cont=>V4 B9∧jV V4 turn r O5 B9 Q
  |.brk=>Q .next O5 B9
  |.ret v=>Q (.ret v) O5 B9
def uO(test:T Bool)(body:TS):Nat->TS
 |0,_,_,_=>False
 |k+1,ρ,σ,Q=>test ρ σ λ b B4=>match b with
  |false=>Q .next ρ B4
  |true=>body ρ B4 λ fl O5 B9=>match fl with
   |.next=>uO test body k O5 B9 Q
   |.cont=>uO test body k O5 B9 Q
   |.brk=>Q .next O5 B9
   |.ret v=>Q (.ret v) O5 B9
def eH(n:Nat)(x:PV):Option (List PV):=match n with
 |0=>some [x]
 |n=>match x with
  |.tup xs=>if xs.length=n then some xs else none
  |_=>none
def aN:List Nat->List PV->List PV->List PV
 |i::is,x::xs,ρ=>aN is xs (ρ.set i x)
 |_,_,ρ=>ρ
structure fL where
 meths:List (Addr×List (String×Addr))
 Dq:List (Addr×List String)
def fL.H2(tb:fL)(C:Addr)(f:String):Option Addr:=(tb.meths.lookup C).bind λ l=>l.lookup f
def fL.fld(tb:fL)(C:Addr)(f:String):Bool:=(tb.Dq.lookup C).any λ l=>l.contains f
def dY(tb:fL)(σ:PH)(o:PV)(f:String):Option Value:=
 nJ (onStr none (λ _=>(GB.lookup f).map .builtin) o) (λ a=>lC (cF (iI none (λ _=>(QE.lookup f).map .builtin) (σ a)) (λ _ _=>(HI.lookup f).map .builtin) (σ a))
  (λ C dx=>tR none (λ D fs=>if D=C then(if(fs.lookup f).isNone=true then(tb.H2 C f).map .ref else none)else none) (σ dx)) (σ a)) o
def lS(f:String)(x:PV):List (String×PV)->List (String×PV)
 |[]=>[(f,x)]
 |(g,y)::r=>if g=f then(f,x)::r else(g,y)::lS f x r
def putK(k:PK)(x:PV):List (PK×PV)->List (PK×PV)
 |[]=>[(k,x)]
 |(j,y)::r=>if j=k then(k,x)::r else(j,y)::putK k x r
theorem lR{k:PK}{x:PV}{p:PK×PV}{r:List (PK×PV)}:putK k x (p::r)=if p.1=k then(k,x)::r else(p.1,p.2)::putK k x r:=rfl
def kO(tb:fL)(σ:PH)(f:String)(x:PV)(Q:PH->Prop):PV->Prop
 |.ref a=>∃C dx fs,σ a=some (.inst C dx)∧σ dx=some (.attrs C fs)∧tb.fld C f=true∧fs.length<=100∧Q (σ.set dx (.attrs C (lS f x fs)))
 |_=>False
def kM(σ:PH)(i x:PV)(Q:PH->Prop)(o:PV):Prop:=nJ False (λ a=>cF (iI False (λ xs=>∃k:Nat,i=.int k∧k<xs.length∧Q (σ.set a (.list (xs.set k x)))) (σ a))
 (λ es _=>∃k,keyOf i=some k∧U3 k es=true∧es.length<2^24∧∀TU,Q (σ.set a (.dict (putK k x es) TU))) (σ a)) o
def M9(B4:PH)(v:PV)(σ:PH):Prop:=match v with
 |.ref a=>σ a=B4 a
 |_=>True
def mB(σ:PH)(v:PV)(xs:List PV):Prop:=itemsOf σ v=some xs∧xs.length<=2^24∧match v with
 |.rY lo hi=>IO lo∧IO hi∧(hi - lo).toNat<=2^24
 |_=>True
mutual
noncomputable def wp(W:Wd)(tb:fL)(n:Nat):PE->WP
 |.none=>vN λ _ σ Q=>Q .none σ
 |.bool b=>vN λ _ σ Q=>Q (.bool b) σ
 |.int i=>vN λ _ σ Q=>Q (.int i) σ
 |.str s=>vN λ _ σ Q=>Q (.str (Str.ofString s)) σ
 |.absent=>vN λ _ σ Q=>Q .none σ
 |.loc i=>vN λ ρ σ Q=>match ρ[i]? with
  |some .M7=>False
  |some v=>Q v σ
  |none=>False
 |.gi _ i=>vN λ _ σ Q=>Q (.int i) σ
 |.gs _ xs=>vN λ _ σ Q=>Q (.tup (xs.map λ s=>.str (Str.ofString s))) σ
 |.attr o f=>vN λ ρ σ Q=>(wp W tb n o).v ρ σ λ ov B4=>∃x,fld B4 ov f=some x∧Q x B4
 |.sub o i=>vN λ ρ σ Q=>(wp W tb n o).v ρ σ λ ov B4=>(wp W tb n i).v ρ B4 λ iv H6=>∃x,gD H6 ov iv=some x∧Q x H6
 |.wP o lo hi=>vN λ ρ σ Q=>(wp W tb n o).v ρ σ λ ov B4=>(wp W tb n lo).v ρ B4 λ lv H6=>(wp W tb n hi).v ρ H6 λ hv R9=>Pi W R9 lv hv Q ov
 |.bin op a b=>vN λ ρ σ Q=>(wp W tb n a).v ρ σ λ x B4=>(wp W tb n b).v ρ B4 λ y H6=>mM op H6 Q x y
 |.neg a=>vN λ ρ σ Q=>(wp W tb n a).v ρ σ λ x B4=>match x with
  |.int i=>Q (.int (-i)) B4
  |_=>False
 |.cmp op a b=>vN λ ρ σ Q=>(wp W tb n a).v ρ σ λ x B4=>(wp W tb n b).v ρ B4 λ y H6=>∃r,iP H6 op x y=some r∧Q (.bool r) H6
 |.KE op CQ a b c=>vN λ ρ σ Q=>(wp W tb n a).v ρ σ λ x B4=>(wp W tb n b).v ρ B4 λ y H6=>∃r,iP H6 op x y=some r∧match r with
  |false=>Q (.bool false) H6
  |true=>(wp W tb n c).v ρ H6 λ z R9=>∃r,iP R9 CQ y z=some r∧Q (.bool r) R9
 |.not a=>⟨λ ρ σ Q=>(wp W tb n a).v ρ σ λ x B4=>∃b,zI B4 x=some b∧Q (.bool !b) B4,λ ρ σ Q=>(wp W tb n a).t ρ σ λ b B4=>Q (!b) B4⟩
 |.and a b=>⟨λ ρ σ Q=>(wp W tb n a).v ρ σ λ x B4=>∃t,zI B4 x=some t∧match t with
   |true=>(wp W tb n b).v ρ B4 Q
   |false=>Q x B4,
  λ ρ σ Q=>(wp W tb n a).t ρ σ λ t B4=>match t with
   |true=>(wp W tb n b).t ρ B4 Q
   |false=>Q false B4⟩
 |.or a b=>⟨λ ρ σ Q=>(wp W tb n a).v ρ σ λ x B4=>∃t,zI B4 x=some t∧match t with
   |false=>(wp W tb n b).v ρ B4 Q
   |true=>Q x B4,
  λ ρ σ Q=>(wp W tb n a).t ρ σ λ t B4=>match t with
   |false=>(wp W tb n b).t ρ B4 Q
   |true=>Q true B4⟩
 |.ite c a b=>⟨λ ρ σ Q=>(wp W tb n c).t ρ σ λ t B4=>match t with
   |true=>(wp W tb n a).v ρ B4 Q
   |false=>(wp W tb n b).v ρ B4 Q,
  λ ρ σ Q=>(wp W tb n c).t ρ σ λ t B4=>match t with
   |true=>(wp W tb n a).t ρ B4 Q
   |false=>(wp W tb n b).t ρ B4 Q⟩
 |.tup es=>vN λ ρ σ Q=>DN W tb n es ρ σ λ xs B4=>Q (.tup xs) B4
 |.list es=>vN λ ρ σ Q=>DN W tb n es ρ σ λ xs B4=>∀c,B4 c=none->Q (.ref c) (B4.set c (.list xs))
 |.dO=>vN λ _ σ Q=>∀c,σ c=none->Q (.ref c) (σ.set c (.dict [] 0))
 |.call _ f args=>vN λ ρ σ Q=>DN W tb n args ρ σ λ xs B4=>J9 W n f xs B4 Q
 |.H2 o f args=>vN λ ρ σ Q=>(wp W tb n o).v ρ σ λ ov B4=>∃fv,dY tb B4 ov f=some fv∧DN W tb n args ρ B4 λ xs H6=>J9 W n fv (ov::xs) H6 Q
 |.sup f args=>vN λ ρ σ Q=>∃self,ρ[0]? =some (.ref self)∧DN W tb n args ρ σ λ xs H6=>J9 W n (.ref f) (.ref self::xs) H6 Q
 |.comp elt tg it cond=>vN λ ρ σ Q=>(wp W tb n it).v ρ σ λ iv B4=>∃xs,mB B4 iv xs∧pD (M9 B4 iv) (λ x σ R=>∃ys,eH tg x=some ys∧
   (wp W tb n cond).t (ρ++ys) σ λ b B9=>match b with
    |true=>(wp W tb n elt).v (ρ++ys) B9 λ y S7=>R (some y) S7
    |false=>R .none B9) xs [] B4 λ ys H6=>∀c,H6 c=none->Q (.ref c) (H6.set c (.list ys))
 |.any=>vN λ _ _ _=>False
noncomputable def DN(W:Wd)(tb:fL)(n:Nat):uL->T (List PV)
 |.nil=>λ _ σ Q=>Q [] σ
 |.cons e r=>λ ρ σ Q=>(wp W tb n e).v ρ σ λ x B4=>DN W tb n r ρ B4 λ xs H6=>Q (x::xs) H6
end
mutual
noncomputable def ws(W:Wd)(tb:fL)(n:Nat):PS->TS
 |.expr e=>λ ρ σ Q=>(wp W tb n e).v ρ σ λ _ B4=>Q .next ρ B4
 |.asg i e=>λ ρ σ Q=>(wp W tb n e).v ρ σ λ x B4=>Q .next (ρ.set i x) B4
 |.pJ is e=>λ ρ σ Q=>(wp W tb n e).v ρ σ λ x B4=>∃xs,x=.tup xs∧xs.length=is.length∧Q .next (aN is xs ρ) B4
 |.Q1 o f e=>λ ρ σ Q=>(wp W tb n e).v ρ σ λ x B4=>(wp W tb n o).v ρ B4 λ ov H6=>kO tb H6 f x (λ R9=>Q .next ρ R9) ov
 |.aM o i e=>λ ρ σ Q=>(wp W tb n e).v ρ σ λ x B4=>(wp W tb n o).v ρ B4 λ ov H6=>(wp W tb n i).v ρ H6 λ iv R9=>kM R9 iv x (λ mU=>Q .next ρ mU) ov
 |.ite c a b=>λ ρ σ Q=>(wp W tb n c).t ρ σ λ t B4=>match t with
  |true=>S8 W tb n a ρ B4 Q
  |false=>S8 W tb n b ρ B4 Q
 |.IA c b=>λ ρ σ Q=>∃k,uO (wp W tb n c).t (S8 W tb n b) k ρ σ Q
 |.R6 i it b=>λ ρ σ Q=>(wp W tb n it).v ρ σ λ iv B4=>∃xs,mB B4 iv xs∧jV (M9 B4 iv) (λ x ρ σ R=>S8 W tb n b (ρ.set i x) σ R) xs ρ B4 Q
 |.rS is it b=>λ ρ σ Q=>(wp W tb n it).v ρ σ λ iv B4=>∃xs,mB B4 iv xs∧jV (M9 B4 iv) (λ x ρ σ R=>∃ys,x=.tup ys∧ys.length=is.length∧S8 W tb n b (aN is ys ρ) σ R) xs ρ B4 Q
 |.forR i it b=>λ ρ σ Q=>(wp W tb n it).v ρ σ λ iv B4=>∃a xs,iv=.ref a∧B4 a=some (.list xs)∧xs.length<=2^24∧jV (M9 B4 iv) (λ x ρ σ R=>S8 W tb n b (ρ.set i x) σ R) xs.reverse ρ B4 Q
 |.ret e=>λ ρ σ Q=>(wp W tb n e).v ρ σ λ x B4=>Q (.ret x) ρ B4
 |.WH=>λ ρ σ Q=>Q (.ret .none) ρ σ
 |.cont=>λ ρ σ Q=>Q .cont ρ σ
 |.pass=>λ ρ σ Q=>Q .next ρ σ
 |.any=>λ _ _ _=>False
noncomputable def S8(W:Wd)(tb:fL)(n:Nat):V0->TS
 |.nil=>λ ρ σ Q=>Q .next ρ σ
 |.cons s r=>λ ρ σ Q=>ws W tb n s ρ σ λ fl O5 B9=>match fl with
  |.next=>S8 W tb n r O5 B9 Q
  |.brk=>Q .brk O5 B9
  |.cont=>Q .cont O5 B9
  |.ret v=>Q (.ret v) O5 B9
end
structure Wd.Ok(W:Wd):Prop where
 IB:W.K.In W.h₀
 g:W.h₀.Ns mainGlobals W.mg
 b:W.h₀.Ns builtinsNs W.mb
 bi:∀x:Str,x≠"__name__"->W.mb x=bootBuiltins x
 nolimit:W.h₀.NoLimit
 digits:∃mc,And (W.h₀.Ns cStatics mc) (mc "sys.int_max_str_digits"=none)
 seer:W.h₀.NoSeer
 tree:W.prog.given.tree=none
 Vl:∃o,W.h₀.get? sysModules=some o
 bx:∃vs:List Value,W.h₀.IsList W.xN vs.toArray∧bO W.h₀ (W.PJ.map .int) vs∧W.PJ.length<=2^20
def DJ(env:Env)(x:Str):Option Addr:=if x="__class__" then none else env.cells.lookup x
theorem mI{env:Env}{x:Str}{c:Addr}(h:DJ env x=some c):env.cells.lookup x=some c:=by
 unfold DJ at h;split at h
 ·cases h
 ·exact h
theorem NT{env:Env}{x:Str}{c:Addr}(h:DJ env x=some c):x≠"__class__":=by
 unfold DJ at h;split at h
 ·cases h
 ·assumption
theorem BW{env:Env}{x:Str}{c:Addr}(n:x≠"__class__")(h:env.cells.lookup x=some c):DJ env x=some c:=by
 unfold DJ;rw[G0 n];exact h
structure U5(env:Env):Prop where
 kind:env.scope.kind=.function
 glob:env.globals=mainGlobals
 blt:env.builtins=builtinsNs
 gen:env.scope.isGenerator=false
 Ij:env.scope.isCoroutine=false
 cls:∀x:Str,x≠("__class__":Str)->env.kindOf x=some .cell∨env.kindOf x=some .free->∃c,DJ env x=some c
def rK(env:Env)(b:Addr):Prop:=b=env.locals∨∃x,DJ env x=some b
structure FR(W:Wd)(ns:List (Option Str))(ρ:List PV)(env:Env)(σ:PH)(h:Heap):Prop where
 val:∃m,h.Ns env.locals m∧∀(i:Nat) (x:Str) (pv:PV),ns[i]? =some (some x)->ρ[i]? =some pv->pv≠.M7->
  ∃v,VR h pv v∧((env.kindOf x=some .local∧m x=some v)∨((env.kindOf x=some .cell∨env.kindOf x=some .free)∧∃c,DJ env x=some c∧h.IsCell c (some v)))
 cells:∀x c,DJ env x=some c->∃v,h.IsCell c v
 inj:∀x y c,DJ env x=some c->DJ env y=some c->x=y
 own:∀b,rK env b->σ b=none∧W.h₀.get? b=none
 len:ρ.length=ns.length
 nd:∀(i j:Nat) (x:Str),ns[i]? =some (some x)->ns[j]? =some (some x)->i=j
theorem FR.eM{W:Wd}{ns:List (Option Str)}{ρ:List PV}{env:Env}{σ B9:PH}{h h':Heap}(S:SR W σ h)(F:FR W ns ρ env σ h)(x:kB σ h B9 h'):FR W ns ρ env B9 h':=by
 have m:=x.V7 S
 have cell:∀y c v,DJ env y=some c->h.IsCell c v->h'.IsCell c v:=λ y c v e ⟨o,ho,hd⟩=>⟨o,(x.bN c o ho (F.own c (.inr ⟨y,e⟩)).1).1,hd⟩
 refine A0 (F.val) λ mm hZ=>?_;delta hZ hn hv
 intros hn o hZ;intros hZ es Q0;intros Q0 ep P4;delta P4 ho r
 have hL:=x.bN env.locals o ho (F.own _ (.inl rfl)).1
 refine⟨⟨mm,⟨o,es,ep,hL.1,r⟩,λ i y pv a b c=>?_⟩,λ y c e=>?_,F.inj,λ b hb=>⟨?_,(F.own b hb).2⟩,F.len,F.nd⟩
 ·refine A0 (hv i y pv a b c) λ v hZ=>?_;delta hZ r1 q
  refine⟨v,r1.V7 m,q.imp id λ⟨k,c',e,hc⟩=>⟨k,c',e,cell y c' _ e hc⟩⟩
 ·refine A0 (F.cells y c e) λ v hc=>?_;exact⟨v,cell y c v e hc⟩
 ·rcases hb with rfl|⟨y,e⟩
  ·exact hL.2
  ·refine A0 (F.cells y b e) λ v hZ=>?_;intros hZ o' Q0;delta Q0 LD
   exact(x.bN b o' LD (F.own b (.inr ⟨y,e⟩)).1).2
def Ev(W:Wd)(n:Nat)(ns:List (Option Str))(env:Env)(e:Expr)(f:T PV):Prop:=
 ∀A s ρ σ Q,Rm n A->SR W σ s.heap->FR W ns ρ env σ s.heap->f ρ σ Q->wpAny W.M A (eval e env) (K4 W σ s Q) (λ _ _=>False) s
def FP(W:Wd)(n:Nat)(ns:List (Option Str))(env:Env)(e:Expr)(f:T Bool):Prop:=
 ∀A s ρ σ (Q:Bool->PH->Prop),Rm n A->SR W σ s.heap->FR W ns ρ env σ s.heap->f ρ σ Q->wpAny W.M A (isTrue e env (eval e env)) (λ b s'=>∃B9,Q b B9∧SR W B9 s'.heap∧kB σ s.heap B9 s'.heap∧Sm s s') (λ _ _=>False) s
section
variable{W:Wd}{n:Nat}{ns:List (Option Str)}{env:Env}{A:Around}{s:Shared}{ρ:List PV}{σ:PH}{Q:PV->PH->Prop}{E:Value->Shared->Prop}
theorem K4.now{v:Value}{pv:PV}(S:SR W σ s.heap)(r:VR s.heap pv v)(q:Q pv σ){s':Shared}(hs:∃t,s'={s with toks:=t}):K4 W σ s Q v s':=by
 intros hs t hZ;obtain rfl:=hZ
 exact⟨pv,σ,q,r,S,.refl _ _,⟨s.heap,t,rfl⟩⟩
theorem K4.step{I2:Shared}{B4:PH}(x:kB σ s.heap B4 I2.heap)(e:Sm s I2){v:Value}{s':Shared}(p:K4 W B4 I2 Q v s'):K4 W σ s Q v s':=
 let⟨pv,B9,q,r,S,y,z⟩:=p;⟨pv,B9,q,r,S,x.trans y,e.trans z⟩
theorem Ev.bind{e:Expr}{f:T PV}{OK:PV->PH->Prop}{R:Value->Shared->Prop}(he:Ev W n ns env e f)(rm:Rm n A)(S:SR W σ s.heap)(F:FR W ns ρ env σ s.heap)(h:f ρ σ OK)
  (hk:∀v I2 pv B4,OK pv B4->VR I2.heap pv v->SR W B4 I2.heap->FR W ns ρ env B4 I2.heap->kB σ s.heap B4 I2.heap->Sm s I2->R v I2):
  wpAny W.M A (eval e env) R (λ _ _=>False) s:=
 I7 (he A s ρ σ OK rm S F h) (λ v I2 ⟨pv,B4,q,r,N5,x,e⟩=>hk v I2 pv B4 q r N5 (F.eM S x) x e) λ _ _ x=>x
theorem Ee{k:Nat}{pos:Pos}:Ev W n ns env (.Constant .none k pos) (λ _ σ Q=>Q .none σ):=λ A s ρ σ Q _ S _ q=>by
 rw[eval_Constant];exact D4 (K4.now S .none q ⟨_,rfl⟩)
theorem Ej{b:Bool}{k:Nat}{pos:Pos}:Ev W n ns env (.Constant (.bool b) k pos) (λ _ σ Q=>Q (.bool b) σ):=λ A s ρ σ Q _ S _ q=>by
 rw[eval_Constant];exact D4 (K4.now S (.bool b) q ⟨_,rfl⟩)
theorem Mc{i:Int}{k:Nat}{pos:Pos}:Ev W n ns env (.Constant (.int i) k pos) (λ _ σ Q=>Q (.int i) σ):=λ A s ρ σ Q _ S _ q=>
 wpAny_Constant_int (K4.now S (.int i _) q ⟨_,rfl⟩)
theorem Lw{x:Str}{k:Nat}{pos:Pos}(hz:x.length<=sizeLine):Ev W n ns env (.Constant (.str x) k pos) (λ _ σ Q=>Q (.str x) σ):=λ A s ρ σ Q _ S _ q=>by
 rw[eval_Constant];exact wpAny_mkText (K4.now S (.str x _ hz) q ⟨_,rfl⟩)
theorem Ma{i:Nat}{x:Str}{pos:Pos}(hE:U5 env)(hi:ns[i]? =some (some x))(hd:(x==("__debug__":Str))=false)(hc:(x==("__classdict__":Str))=false):
  Ev W n ns env (.Name x pos) (λ ρ σ Q=>match ρ[i]? with|some .M7=>False|some v=>Q v σ|none=>False):=λ A s ρ σ Q _ S F q=>by
 dsimp only at q
 cases e:ρ[i]? with
 |none=>rw[e]at q;exact q.elim
 |some pv=>
  rw[e]at q
  have hu:pv≠.M7:=by rintro rfl;exact q
  have q':Q pv σ:=by cases pv<;>first|exact q|exact(hu rfl).elim
  refine A0 (F.val) λ m hZ=>?_;delta hZ hn hv
  refine A0 (hv i x pv hi e hu) λ v hZ=>?_;generalize hZ.1=r;obtain⟨k,e1⟩|⟨k,c,e1,e2⟩:=hZ.2;try clear hZ
  ·exact wpAny_Name (wpAny_loadName_local hE.kind k hn e1 (K4.now S r q' ⟨_,rfl⟩)) hd
  ·rcases k with k|k
   ·exact wpAny_Name (wpAny_loadName_cell hE.kind k (mI e1) e2 (K4.now S r q' ⟨_,rfl⟩)) hd
   ·exact wpAny_Name (wpAny_loadName_free hE.kind k (mI e1) e2 (K4.now S r q' ⟨_,rfl⟩) hc) hd
end
section
variable{W:Wd}{n:Nat}{A:Around}{s:Shared}{σ:PH}{Q:PV->PH->Prop}
theorem K4.alloc{o:PO}{ob:Obj}{t:Tok}(S:SR W σ s.heap)(r:OR W (s.heap.push ob) o ob)(q:∀c,σ c=none->Q (.ref c) (σ.set c o)):K4 W σ s Q (.ref s.heap.objs.size) {s with heap:=s.heap.push ob,toks:=t}:=by
 have hZ:=S.alloc (W7 (D7 _)) (Q6 _ _) (N6 _ r.WW) r;delta hZ S' x e
 exact⟨_,_,q _ e,.ref _,S',x,⟨_,_,rfl⟩⟩
theorem SR.list{σ:PH}{h:Heap}(S:SR W σ h){a:Addr}{xs:List PV}(e:σ a=some (.list xs)):∃vs k,h.get? a=some ⟨.type "list",none,.seq vs.toArray k,#[]⟩∧bO h xs vs∧xs.length<=2^25:=by
 refine A0 (S.obj a _ e) λ ob hZ=>?_;delta hZ e1 r
 cases r with|@list _ vs k r b=>exact⟨vs,k,e1,r,b⟩
theorem LY{a:Int}(h:IO a):a.natAbs<2^64:=by unfold IO at h;lia
theorem IN{a:Int}(h:IO a):Builtin.Int.intBits a<=64:=intBits_le_64 (by unfold IO at h;lia) (by unfold IO at h;lia)
theorem Wd.Ok.room(hW:W.Ok)(S:SR W σ s.heap)(rm:Rm n A):PylongRoom W.M A s:=by
 refine ee2.e (rm.fr) λ e o hZ=>?_;delta hZ f1 f2 f3 f4 f5
 exact PylongRoom.of (hW.nolimit.keeps S.keep) (by have:=rm.dp;simp only[Builtin.pylongFrames,recursionLimit];lia) (hs:=SeerAt.of (hW.seer.keeps S.keep) hW.tree f1 f4 f5 f3 f2)
theorem yF(k:Nat)(v:Value):List.foldl (λ x1 x2=>x1++x2) #[] (List.replicate k #[v])=(List.replicate k v).toArray:=by
 have:∀(k:Nat) (acc:Array Value),List.foldl (λ x1 x2=>x1++x2) acc (List.replicate k #[v])=acc++(List.replicate k v).toArray:=by
  intro k
  induction k with
  |zero=>intro acc;simp
  |succ k ih=>intro acc;simp only[List.replicate_succ,J0,ih];apply Array.ext';simp
 simpa using this k #[]
theorem bO.replicate{h:Heap}{x:PV}{v:Value}(r:VR h x v)(k:Nat):bO h (List.replicate k x) (List.replicate k v):=by
 induction k with
 |zero=>exact .nil
 |succ k ih=>exact .cons r ih
theorem Ge{C:PV->PV->Prop}{op:Operator}{x y:PV}(h:mM op σ Q x y)(ki:∀a b,Ms op (λ v=>Q v σ) a b->C (.int a) (.int b))(ks:∀a b,op=.Add∧a.length+b.length<=2^24∧Q (.str (a++b)) σ->C (.str a) (.str b))
  (kl:∀a b,(op=.Add∧∃xs ys,σ a=some (.list xs)∧σ b=some (.list ys)∧xs.length+ys.length<=2^24∧∀c,σ c=none->Q (.ref c) (σ.set c (.list (xs++ys))))->C (.ref a) (.ref b))
  (km:∀a n,(op=.Mult∧∃xs,σ a=some (.list xs)∧0<=n∧n<=2^24∧xs.length=1∧∀c,σ c=none->Q (.ref c) (σ.set c (.list ((List.replicate n.toNat xs).flatten))))->C (.ref a) (.int n)):C x y:=
 dC (P:=λ x=>C x y) x (eq_true h) (λ e=>tQ (P:=λ x=>C x y) x e (λ e=>dA (P:=λ x=>C x y) x e (λ e=>(bF e).elim) λ a e=>dA (P:=C (.ref a)) y e (λ e=>dC (P:=C (.ref a)) y e (λ e=>(bF e).elim) λ n e=>km a n (bF e)) λ b e=>kl a b (bF e))
  λ a e=>tQ (P:=C (.str a)) y e (λ e=>(bF e).elim) λ b e=>ks a b (bF e)) λ a e=>dC (P:=C (.int a)) y e (λ e=>(bF e).elim) λ b e=>ki a b (bF e)
theorem oZ(hW:W.Ok){op:Operator}{a b:Int}{t t':Tok}(rm:Rm n A)(S:SR W σ s.heap)(h:Ms op (λ v=>Q v σ) a b):wpAny W.M A (binaryOp op (.int a t) (.int b t')) (K4 W σ s Q) (λ _ _=>False) s:=match op,h with
 |.Add,h=>add_int (K4.now S (.int _ _) h ⟨_,rfl⟩)
 |.Sub,h=>sub_int (K4.now S (.int _ _) h ⟨_,rfl⟩)
 |.Mult,h=>mul_int (K4.now S (.int _ _) h.2 ⟨_,rfl⟩) (h.1.elim (λ q=>IntMulOk.of_left (IN q)) λ q=>IntMulOk.of_right (IN q))
 |.FloorDiv,h=>floordiv_int h.1 (K4.now S (.int _ _) h.2 ⟨_,rfl⟩) (Or.inr (hW.room S rm))
 |.Mod,h=>mod_int' h.1 (K4.now S (.int _ _) h.2 ⟨_,rfl⟩)
 |.BitOr,h=>or_int (K4.now S (.int _ _) h ⟨_,rfl⟩)
 |.BitAnd,h=>and_int (K4.now S (.int _ _) h ⟨_,rfl⟩)
 |.LShift,h=>lshift_int_small h.1 h.2 (LY h.3) (K4.now S (.int _ _) h.4 ⟨_,rfl⟩)
 |.RShift,h=>rshift_int h.1 (K4.now S (.int _ _) h.2 ⟨_,rfl⟩)
theorem Cu{n m:Nat}(h:n<=2^24)(hm:2^24<=m):n<=m:=A9 h hm
theorem Kg{a:Addr}{i:Int}{t:Tok}{xs:List PV}(S:SR W σ s.heap)(ea:σ a=some (.list xs))(h0:0<=i)(h1:i<=2^24)(hl:xs.length=1)(hq:∀c,σ c=none->Q (.ref c) (σ.set c (.list ((List.replicate i.toNat xs).flatten)))):wpAny W.M A (binaryOp .Mult (.ref a) (.int i t)) (K4 W σ s Q) (λ _ _=>False) s:=by
 refine ee2.e (S.list ea) λ vs k hZ=>?_;delta hZ e1 r1
 refine A0 (List.length_eq_one_iff.mp hl) λ x hZ=>?_;clear ea hl;obtain rfl:=hZ
 obtain⟨v,rfl,ra⟩:∃v,vs=[v]∧VR s.heap x v:=by clear e1;cases r1 with|cons ra rb=>cases rb;exact⟨_,rfl,ra⟩
 have hz:i.toNat<=2^24:=Int.toNat_le.mpr h1
 refine wpAny_binaryOp_repeat_ref (T:="list") (U:="int") (by decide) ⟨_,e1,rfl⟩ (λ s'=>typeIs_int s' i t) noFill_list_mul PySem.F.fills_int_mul PySem.F.slot_int_rmul repeat_list PySem.F.slot_int_index.lookup
  (iT PySem.F.slot_int_rmul (typeIs_int s i t) PySem.F.entry_int_rmul (PySem.F.args_int_rmul_2 _ _) (int___rmul___int_list i t a _ k)
   ⟨e1,rfl,⟨_,e1,rfl⟩,iT PySem.F.slot_list_mul ⟨_,e1,rfl⟩ PySem.F.entry_list_mul (PySem.F.args_list_mul_2 _ _)
    (AutoListH.list___mul___list_int_3 a _ k i t (by simp[Builtin.List.listFitsIndex];lia) (by simp;lia) (by simp[Builtin.List.listTooLong,sizeLine];lia)) ⟨e1,?_⟩⟩)
 have e:(if([v].toArray).isEmpty=true then 0 else i.toNat)=i.toNat:=rfl
 rw[e,show([v].toArray)=#[v]from rfl,yF]
 have e2:(List.replicate i.toNat [x]).flatten=List.replicate i.toNat x:=List.flatten_replicate_singleton
 rw[e2]at hq
 exact K4.alloc (o:=.list (List.replicate i.toNat x)) S (.list ((bO.replicate ra _).V7 (.keeps (Q6 _ _))) (by rw[K8];exact Cu hz (by decide))) hq
theorem OD(hW:W.Ok){op:Operator}{x y:PV}{v u:Value}(rm:Rm n A)(S:SR W σ s.heap)(rx:VR s.heap x v)(ry:VR s.heap y u)(h:mM op σ Q x y):
  wpAny W.M A (binaryOp op v u) (K4 W σ s Q) (λ _ _=>False) s:=
 Ge (C:=λ x y=>VR s.heap x v->VR s.heap y u->wpAny W.M A (binaryOp op v u) (K4 W σ s Q) (λ _ _=>False) s) h
  (λ a b h rx ry=>rx.mD (P:=λ v=>wpAny W.M A (binaryOp op v u) (K4 W σ s Q) (λ _ _=>False) s) λ t=>ry.mD (P:=λ u=>wpAny W.M A (binaryOp op (.int a t) u) (K4 W σ s Q) (λ _ _=>False) s) λ t'=>oZ hW rm S h)
  (λ a b h rx ry=>rx.qC (P:=λ v=>wpAny W.M A (binaryOp op v u) (K4 W σ s Q) (λ _ _=>False) s) λ t _=>ry.qC (P:=λ u=>wpAny W.M A (binaryOp op (.str a t) u) (K4 W σ s Q) (λ _ _=>False) s) λ t' _=>by
   obtain rfl:=h.1;delta h h h1 h2
   have hz:a.length+b.length<=sizeLine:=by rw[K0];exact Cu h1 (by decide)
   exact add_str (λ t' tk=>K4.now S (.str _ _ (by rw[R7];exact hz)) h2 ⟨_,rfl⟩) hz)
  (λ a b h rx ry=>rx.tF (P:=λ v=>wpAny W.M A (binaryOp op v u) (K4 W σ s Q) (λ _ _=>False) s)<|ry.tF (P:=λ u=>wpAny W.M A (binaryOp op (.ref a) u) (K4 W σ s Q) (λ _ _=>False) s)<|by
   obtain rfl:=h.1;refine ee2.e h.2 λ xs ys Q0=>?_;delta Q0 ea eb hz hq;try clear h
   refine ee2.e (S.list ea) λ vs k hZ=>?_;delta hZ e1 r1
   refine ee2.e (S.list eb) λ us k' hZ=>?_;delta hZ e2 r2
   refine P.add_list e1 e2 (K4.alloc (o:=.list (xs++ys)) S ?_ hq) (by rw[H0,H0,r1.length,r2.length,K0];exact Cu hz (by decide))
   rw[List.append_toArray]
   exact .list ((r1.V7 (.keeps (Q6 _ _))).append (r2.V7 (.keeps (Q6 _ _)))) (by rw[B0];exact Cu hz (by decide)))
  (λ a i h rx ry=>rx.tF (P:=λ v=>wpAny W.M A (binaryOp op v u) (K4 W σ s Q) (λ _ _=>False) s)<|ry.mD (P:=λ u=>wpAny W.M A (binaryOp op (.ref a) u) (K4 W σ s Q) (λ _ _=>False) s) λ t=>by
   obtain rfl:=h.1;refine A0 h.2 λ xs Q0=>?_;delta Q0 ea h0 h1 hl hq;try clear h
   exact Kg S ea h0 h1 hl hq) rx ry
end
section
open PySem.SeqAt (EqAt RcAt)
theorem qK{P:PV->Prop}:∀{a:PV},scalar a=true->(∀i,P (.int i))->(∀s,P (.str s))->P a
 |.int i,_,k,_=>k i
 |.str s,_,_,k=>k s
 |.none,h,_,_|.bool _,h,_,_|.tup _,h,_,_|.ref _,h,_,_|.rY _ _,h,_,_|.M7,h,_,_=>(C5 h).elim
theorem xF{P:PV->Prop}:∀{a:PV},eZ a=true->(∀i,P (.int i))->(∀s,P (.str s))->(∀xs,xs.all scalar=true->P (.tup xs))->P a
 |.int i,_,k,_,_=>k i
 |.str s,_,_,k,_=>k s
 |.tup xs,h,_,_,k=>k xs h
 |.none,h,_,_,_|.bool _,h,_,_,_|.ref _,h,_,_,_|.rY _ _,h,_,_,_|.M7,h,_,_,_=>(C5 h).elim
theorem YW{a:PV}(h:scalar a=true):vV a a=true:=qK (P:=λ a=>vV a a=true) h (λ _=>H3 rfl) λ _=>H3 rfl
theorem tt{a b:Bool}(h:a=true)(k:b=true):(a&&b)=true:=F0.mpr ⟨h,k⟩
theorem bt{a b:Bool}(h:(a&&b)=true):a=true∧b=true:=⟨(F0.mp h).1,(F0.mp h).2⟩
theorem EY:∀{a:List PV},a.all scalar=true->DH a a=true
 |[],_=>rfl
 |x::r,h=>tt (YW (bt h).1) (EY (bt h).2)
theorem BP:∀{a b:List PV},DH a b=((List.range (min a.length b.length)).all (λ j=>vV (a.getD j .none) (b.getD j .none))&&a.length==b.length)
 |[],[]=>rfl
 |[],_::_=>rfl
 |_::_,[]=>rfl
 |x::r,y::q=>by
  show(vV x y&&DH r q)=_
  rw[BP (a:=r) (b:=q)]
  simp only[H5,Nat.succ_min_succ,aF,dE,cR]
  simp[qH,Bool.and_assoc]
theorem BQ:∀{a b:List PV},a.length=b.length->BR a b=(List.range a.length).all (λ j=>KB (a.getD j .none) (b.getD j .none))
 |[],[],_=>rfl
 |x::r,y::q,h=>by
  show(KB x y&&BR r q)=_
  rw[BQ (a:=r) (b:=q) (by simpa using h)]
  simp only[H5,aF,dE,cR]
  simp[qH]
theorem JZ:∀{a b:List PV},a.length≠b.length->BR a b=false
 |[],[],h=>by simp at h
 |[],_::_,_=>rfl
 |_::_,[],_=>rfl
 |x::r,y::q,h=>by show(KB x y&&BR r q)=false;rw[JZ (a:=r) (b:=q) (by simpa using h)];exact Bool.and_false _
section
variable{W:Wd}{n:Nat}{A:Around}{s:Shared}{σ:PH}{Q:PV->PH->Prop}
theorem WA{h:Heap}{x y:PV}{v:Value}(sx:scalar x=true)(sy:scalar y=true)(a:VR h x v)(b:VR h y v):x=y:=
 qK (P:=λ x=>VR h x v->x=y) sx (λ i a=>a.mD (P:=λ v=>VR h y v->.int i=y) (λ t=>qK (P:=λ y=>VR h y (.int i t)->.int i=y) sy (λ j b=>by cases b;rfl) λ j b=>by cases b) b)
  (λ i a=>a.qC (P:=λ v=>VR h y v->.str i=y) (λ t _=>qK (P:=λ y=>VR h y (.str i t)->.str i=y) sy (λ j b=>by cases b) λ j b=>by cases b;rfl) b) a
theorem DY{h:Heap}{xs ys:List PV}{vs:List Value}(sx:xs.all scalar=true)(sy:ys.all scalar=true)(a:bO h xs vs)(b:bO h ys vs):xs=ys:=by
 induction xs generalizing ys vs with
 |nil=>clear sy;cases a;cases b;rfl
 |cons x r ih=>
  cases a with|cons a1 a2=>cases b with|cons b1 b2=>
   simp only[dE,W2]at sx sy
   rw[WA sx.1 sy.1 a1 b1,ih sx.2 sy.2 a2 b2]
theorem lH{x y:PV}{v u:Value}(sx:scalar x=true)(sy:scalar y=true)(a:VR s.heap x v)(b:VR s.heap y u):EqAt A s v u (vV x y):=
 qK (P:=λ x=>VR s.heap x v->EqAt A s v u (vV x y)) sx
  (λ i a=>a.mD (P:=λ v=>EqAt A s v u (vV (.int i) y)) λ t=>qK (P:=λ y=>VR s.heap y u->EqAt A s (.int i t) u (vV (.int i) y)) sy (λ j b=>b.mD (P:=λ u=>EqAt A s (.int i t) u (decide (i=j))) λ t'=>EqAt.int_int (A:=A) (s:=s) i t j t') (λ j b=>b.qC (P:=λ u=>EqAt A s (.int i t) u false) λ _ _=>EqAt.int_str _ _ _ _) b)
  (λ i a=>a.qC (P:=λ v=>EqAt A s v u (vV (.str i) y)) λ t _=>qK (P:=λ y=>VR s.heap y u->EqAt A s (.str i t) u (vV (.str i) y)) sy (λ j b=>b.mD (P:=λ u=>EqAt A s (.str i t) u false) λ _=>EqAt.str_int _ _ _ _) (λ j b=>b.qC (P:=λ u=>EqAt A s (.str i t) u (decide (i=j))) λ t' _=>EqAt.str_str (A:=A) (s:=s) i t j t') b) a
theorem bO.getElem{h:Heap}{xs:List PV}{vs:List Value}(r:bO h xs vs){j:Nat}(hj:j<vs.length):VR h (xs.getD j .none) vs[j]:=by
 have Qv:j<xs.length:=r.length▸hj
 refine A0 (r.get (C4 Qv)) λ v hZ=>?_;delta hZ e q
 rw[C4 hj]at e
 cases e
 simpa[List.getD,C4 Qv]using q
theorem uJ{p:PV->Bool}{xs:List PV}(h:xs.all p=true){j:Nat}(hj:j<xs.length):p (xs.getD j .none)=true:=by
 have:xs.getD j .none=xs[j]:=by simp[List.getD,C4 hj]
 rw[this];exact G3.mp h _ (sJ hj)
theorem TR{xs ys:List PV}{l l':Addr}{vs us:List Value}(hu:A.units<cLine)(sx:xs.all scalar=true)(sy:ys.all scalar=true)(ta:s.heap.IsTuple l vs.toArray)(tb:s.heap.IsTuple l' us.toArray)(ra:bO s.heap xs vs)(rb:bO s.heap ys us):EqAt A s (.ref l) (.ref l') (DH xs ys):=by
 by_cases e:l=l'
 ·subst e
  intros ta o hZ;generalize hZ.1=ho;generalize hZ.2=P4;generalize P4.1=hc;refine A0 P4.2 λ k hd=>?_;try clear P4;try clear hZ
  intros tb o' hZ;generalize hZ.1=LD;generalize hZ.2=P4;generalize P4.1=VB;refine A0 P4.2 λ k' VA=>?_;try clear P4;try clear hZ
  clear VB;obtain rfl:o=o':=H1 (ho.symm.trans LD)
  have:vs=us:=C7 Array.toList (Data.seq.inj (hd.symm.trans VA)).1
  clear VA;subst this
  rw[DY sx sy ra rb,EY sy]
  exact EqAt.same _
 ·refine EqAt.of_refs e ?_
  have:=RcAt.tuples (A:=A) (s:=s) (e:=λ j=>vV (xs.getD j .none) (ys.getD j .none)) ta tb hu λ j h1 h2=>
   lH (uJ sx (ra.length▸h1)) (uJ sy (rb.length▸h2)) (ra.getElem h1) (rb.getElem h2)
  rw[BP,<-ra.length,<-rb.length]
  exact this
theorem vX{x y:PV}{v u:Value}(hu:A.units<cLine)(sx:eZ x=true)(sy:eZ y=true)(a:VR s.heap x v)(b:VR s.heap y u):EqAt A s v u (KB x y):=
 xF (P:=λ x=>VR s.heap x v->EqAt A s v u (KB x y)) sx
  (λ i a=>xF (P:=λ y=>VR s.heap y u->EqAt A s v u (KB (.int i) y)) sy (λ j b=>lH (y:=.int j) rfl rfl a b) (λ j b=>lH (y:=.str j) rfl rfl a b) (λ ys sy b=>a.mD (P:=λ v=>EqAt A s v u false) λ t=>b.xM (P:=λ u=>EqAt A s (.int i t) u false) λ _ _ tb _ _=>EqAt.int_tuple _ _ tb hu) b)
  (λ i a=>xF (P:=λ y=>VR s.heap y u->EqAt A s v u (KB (.str i) y)) sy (λ j b=>lH (y:=.int j) rfl rfl a b) (λ j b=>lH (y:=.str j) rfl rfl a b) (λ ys sy b=>a.qC (P:=λ v=>EqAt A s v u false) λ t _=>b.xM (P:=λ u=>EqAt A s (.str i t) u false) λ _ _ tb _ _=>EqAt.str_tuple _ _ tb hu) b)
  (λ xs sx a=>xF (P:=λ y=>VR s.heap y u->EqAt A s v u (KB (.tup xs) y)) sy (λ j b=>a.xM (P:=λ v=>EqAt A s v u false) λ _ _ ta _ _=>b.mD (P:=λ u=>EqAt A s _ u false) λ _=>EqAt.tuple_int _ _ ta hu)
   (λ j b=>a.xM (P:=λ v=>EqAt A s v u false) λ _ _ ta _ _=>b.qC (P:=λ u=>EqAt A s _ u false) λ _ _=>EqAt.tuple_str _ _ ta hu)
   (λ ys sy b=>a.xM (P:=λ v=>EqAt A s v u (DH xs ys)) λ _ _ ta ra _=>b.xM (P:=λ u=>EqAt A s _ u (DH xs ys)) λ _ _ tb rb _=>TR hu sx sy ta tb ra rb) b) a
theorem Q3{h:Heap}{a:Addr}{vs:List Value}{k:Nat}(e:h.get? a=some ⟨.type "list",none,.seq vs.toArray k,#[]⟩):h.IsList a vs.toArray:=⟨_,e,rfl,k,rfl⟩
theorem bO.mem{h:Heap}{xs:List PV}{vs:List Value}(r:bO h xs vs){v:Value}(m:v∈vs):∃x∈xs,VR h x v:=by
 induction xs generalizing vs with
 |nil=>cases r;cases m
 |cons x q ih=>
  cases r with|cons a b=>
   rcases F8.mp m with rfl|m
   ·exact⟨x,.head _,a⟩
   ·refine A0 (ih b m) λ y hZ=>?_;delta hZ hy z;exact⟨y,.tail _ hy,z⟩
theorem SK{h:Heap}{a:Addr}{vs us:List Value}(x:h.IsTuple a vs.toArray)(y:h.IsTuple a us.toArray):vs=us:=by
 intros x o hZ;generalize hZ.1=ho;generalize hZ.2=P4;generalize P4.1=hc;refine A0 P4.2 λ k hd=>?_;try clear P4;try clear hZ
 intros y o' hZ;generalize hZ.1=LD;generalize hZ.2=P4;generalize P4.1=VB;refine A0 P4.2 λ k' VA=>?_;try clear P4;try clear hZ
 rw[ho]at LD;clear VB;cases LD
 rw[hd]at VA
 simpa using(Data.seq.inj VA).1
theorem YF{h:Heap}{x y:PV}{v:Value}(sx:eZ x=true)(sy:eZ y=true)(a:VR h x v)(b:VR h y v):x=y:=
 xF (P:=λ x=>VR h x v->x=y) sx
  (λ i a=>a.mD (P:=λ v=>VR h y v->.int i=y) (λ t=>xF (P:=λ y=>VR h y (.int i t)->.int i=y) sy (λ j b=>by cases b;rfl) (λ j b=>by cases b) λ _ _ b=>by cases b) b)
  (λ i a=>a.qC (P:=λ v=>VR h y v->.str i=y) (λ t _=>xF (P:=λ y=>VR h y (.str i t)->.str i=y) sy (λ j b=>by cases b) (λ j b=>by cases b;rfl) λ _ _ b=>by cases b) b)
  (λ xs sx a=>a.xM (P:=λ v=>VR h y v->.tup xs=y) (λ l vs ta ra _=>xF (P:=λ y=>VR h y (.ref l)->.tup xs=y) sy (λ j b=>by cases b) (λ j b=>by cases b) λ ys sy b=>by cases b with|tup tb rb _=>cases SK ta tb;rw[DY sx sy ra rb]) b) a
open Classical in
def vW(h:Heap)(x:PV)(xs:List PV):Value->Bool:=λ v=>if hv:∃y∈xs,VR h y v then KB hv.choose x else false
theorem yZ{h:Heap}{x:PV}{xs:List PV}(fx:xs.all eZ=true){y:PV}{v:Value}(hy:y∈xs)(r:VR h y v):vW h x xs v=KB y x:=by
 have e:∃y∈xs,VR h y v:=⟨y,hy,r⟩
 unfold vW
 rw[dif_pos e]
 have hZ:=e.choose_spec;delta hZ h1 h2
 rw[YF (G3.mp fx _ h1) (G3.mp fx _ hy) h2 r]
theorem Aj{h:Heap}{x:PV}{xs:List PV}{vs:List Value}(fx:xs.all eZ=true)(r:bO h xs vs):vs.any (vW h x xs)=xs.any λ y=>KB y x:=by
 have gen:∀(zs:List PV) (us:List Value),bO h zs us->(∀z∈zs,z∈xs)->us.any (vW h x xs)=zs.any λ y=>KB y x:=by
  intro zs
  induction zs with
  |nil=>intro us r _;cases r;rfl
  |cons z q ih=>
   intro us r hs
   cases r with|cons a b=>
    simp only[List.any_cons]
    rw[yZ fx (hs z (.head _)) a,ih _ b λ w hw=>hs w (.tail _ hw)]
 exact gen xs vs r λ _ h=>h
end
end
section
open PySem.SeqAt (EqAt RcAt RcNeAt)
section
variable{W:Wd}{n:Nat}{A:Around}{s:Shared}{σ:PH}{Q:PV->PH->Prop}
theorem Rm.in1(rm:Rm n A):A.in1.units+700<PySem.cLine:=by have:=rm.cLine;show A.units+1+700<_;lia
theorem Rm.u(rm:Rm n A):A.units<PySem.cLine:=by have:=rm.cLine;lia
theorem Wd.Ok.vP(hW:W.Ok)(S:SR W σ s.heap){a:Addr}{o:PO}(e:σ a=some o):(a==sysModules)=false:=by
 refine A0 (hW.Vl) λ o' h=>?_
 refine O0.mpr ?_
 rintro rfl
 have:=S.new _ (by rw[e];simp)
 rw[h]at this;cases this
theorem fU{K:Type}[DecidableEq K]{f:K->PK}(inj:∀a b,f a=f b->a=b){h:Heap}{es:List (PK×PV)}{q:List (K×Value)}(x:KV f h es q)(k:K):
  (es.lookup (f k)=none∧valueAt q k=none)∨∃y v,es.lookup (f k)=some y∧valueAt q k=some v∧VR h y v:=by
 induction x with
 |nil=>exact .inl ⟨rfl,rfl⟩
 |@cons k' y v r q' a b ih=>
  by_cases e:k=k'
  ·subst e
   exact .inr ⟨y,v,by simp,by simp[valueAt],a⟩
  ·have e1:(f k==f k')=false:=O0.mpr λ z=>e (inj _ _ z)
   have e2:decide (k'=k)=false:=J8 λ z=>e z.symm
   rw[I1,e1]
   have:valueAt ((k',v)::q') k=valueAt q' k:=by simp[valueAt,e2]
   rw[this];exact ih
theorem tW{K:Type}{f:K->PK}{h:Heap}{es:List (PK×PV)}{q:List (K×Value)}(x:KV f h es q){k:PK}(hk:∀j,f j≠k):es.lookup k=none:=by
 induction x with
 |nil=>rfl
 |@cons k' y v r q' a b ih=>
  rw[I1,show(k==f k')=false from O0.mpr λ z=>hk k' z.symm]
  exact ih
theorem mG{h:Heap}{es:List (PK×PV)}{q:List (List Int×Addr×Value)}(x:KT W h es q)(k:List Int):
  (es.lookup (.bM k)=none∧atKey q k=none)∨∃y a v,es.lookup (.bM k)=some y∧atKey q k=some (a,v)∧VR h y v:=by
 induction x with
 |nil=>exact .inl ⟨rfl,rfl⟩
 |@cons k' y a v r q' a1 b ih Wk=>
  by_cases e:k=k'
  ·clear a1;subst e
   exact .inr ⟨y,a,v,by simp,by simp[atKey],b⟩
  ·have e1:(PK.bM k==PK.bM k')=false:=O0.mpr λ z=>e (by clear a1;injection z)
   have e2:decide (k'=k)=false:=J8 λ z=>e z.symm
   rw[I1,e1]
   have:atKey ((k',a,v)::q') k=atKey q' k:=by simp[atKey,e2]
   rw[this];exact Wk
theorem DE{h:Heap}{es:List (PK×PV)}{q:List (List Int×Addr×Value)}(x:KT W h es q){k:PK}(hk:∀j,.bM j≠k):es.lookup k=none:=by
 induction x with
 |nil=>rfl
 |@cons k' y a v r q' a1 b ih Wk=>
  rw[I1,show(k==PK.bM k')=false from O0.mpr λ z=>hk k' z.symm]
  exact Wk
theorem KT.keys{h:Heap}{es:List (PK×PV)}{q:List (List Int×Addr×Value)}(x:KT W h es q):∀y∈q,W.tk.is h y.1 y.2.1:=by
 induction x with
 |nil=>intro y hy;cases hy
 |cons a b _ ih=>intro y hy;rcases F8.mp hy with rfl|hy;exact a.1;exact ih y hy
inductive OO(W:Wd)(h:Heap):PK->Value->Prop
 |int (i:Int) (t:Tok):OO W h (.int i) (.int i t)
 |str (s:Str) (t:Tok):OO W h (.str s) (.str s t)
 |bM {l:List Int} {a:Addr}:IsTupleKey W.ik h l a->l.length<=2^25->OO W h (.bM l) (.ref a)
theorem JQ{h:Heap}{l:List Int}{vs:List Value}(r:bO h (l.map .int) vs):ItemsAre W.ik l vs:=by
 induction l generalizing vs with
 |nil=>cases r;exact .nil
 |cons i q ih=>
  cases r with|cons a b=>cases a;exact .cons (by simp[intKind,Value.isInt]) (ih b)
theorem yU{h:Heap}{x:PV}{v:Value}{k:PK}(r:VR h x v)(e:keyOf x=some k):OO W h k v:=by
 cases r with
 |int i t=>cases e;exact .int i t
 |str x t _=>cases e;exact .str x t
 |tup t r z=>
  refine A0 (O3.mp e) λ l hZ=>?_;generalize hZ.1=e1;clear e;obtain rfl:=hZ.2;try clear hZ
  have:=TF e1
  clear e1;subst this
  intros t o hZ;generalize hZ.1=ho;generalize hZ.2=P4;generalize P4.1=hc;refine A0 P4.2 λ k hd=>?_;try clear P4;try clear hZ
  exact .bM ⟨o,_,k,ho,hc,hd,by simpa using JQ r⟩ (by simpa using z)
 |_=>cases e
theorem EV(i:Int)(t:Tok):W.ik.is i (.int i t)=true:=by simp[intKind,Value.isInt]
theorem PI(x:Str)(t:Tok):W.sk.is x (.str x t)=true:=by simp[PySem.strKind,Value.isStrOf]
theorem lI{h:Heap}{a:Addr}{n:Nat}{ds:Array DictEntry}{kvs:List (Int×Value)}(e:h.get? a=some ⟨.type "dict",none,.dict ds n,#[]⟩)(b:KeysOf W.ik ds)(c:Pairs W.ik ds.toList kvs)(d:(kvs.map (·.1)).Nodup):h.DictOf W.ik a kvs:=
 ⟨_,ds,n,e,⟨rfl,rfl,rfl⟩,rfl,b,c,d⟩
theorem uD{h:Heap}{a:Addr}{n:Nat}{ds:Array DictEntry}{kvs:List (Str×Value)}(e:h.get? a=some ⟨.type "dict",none,.dict ds n,#[]⟩)(b:KeysOf W.sk ds)(c:Pairs W.sk ds.toList kvs)(d:(kvs.map (·.1)).Nodup):h.DictOf W.sk a kvs:=
 ⟨_,ds,n,e,⟨rfl,rfl,rfl⟩,rfl,b,c,d⟩
theorem pC{h:Heap}{a:Addr}{n:Nat}{ds:Array DictEntry}{es:List (PK×PV)}{xs:List (List Int×Addr×Value)}(e:h.get? a=some ⟨.type "dict",none,.dict ds n,#[]⟩)(b:KT W h es xs)(c:ds.toList=xs.map (entryOfKey W.tk))(d:(xs.map (·.1)).Nodup):h.DictOfH W.tk a xs:=
 ⟨_,ds,n,e,⟨rfl,rfl,rfl⟩,rfl,c,b.keys,d⟩
theorem SR.dict{σ:PH}{h:Heap}(S:SR W σ h){a:Addr}{es:List (PK×PV)}{n:Nat}(e:σ a=some (.dict es n)):∃ob,h.get? a=some ob∧DR W h n es ob:=by
 refine A0 (S.obj a _ e) λ ob hZ=>?_;delta hZ e1 r
 cases r with|dict r=>exact⟨ob,e1,r⟩
set_option tactic.hygienic true in
theorem HF{a:Addr}{es:List (PK×PV)}{ep:Nat}{k:PK}{v:Value}{x:PV}(rm:Rm n A)(S:SR W σ s.heap)(e:σ a=some (.dict es ep))(kr:OO W s.heap k v)(hx:es.lookup k=some x)(q:Q x σ):
  wpAny W.M A (getItem (.ref a) v) (K4 W σ s Q) (λ _ _=>False) s:=by
 refine A0 (S.dict e) λ ob hZ=>?_;delta hZ e1 r
 cases r with
 |i kv b c d=>
  cases kr with
  |int i t=>
   rcases fU (λ _ _ z=>by injection z) kv i with⟨z,_⟩|⟨y,u,z,z2,r⟩
   ·rw[hx]at z;cases z
   ·rw[hx]at z;cases z
    exact wpAny_getItem_of (EV i t) (lI e1 b c d).mapOf z2 (K4.now S r q ⟨_,rfl⟩)
  |_=>rw[tW kv (by intro j z;cases z)]at hx;cases hx
 |s kv b c d=>
  cases kr with
  |str i t=>
   rcases fU (λ _ _ z=>by injection z) kv i with⟨z,_⟩|⟨y,u,z,z2,r⟩
   ·rw[hx]at z;cases z
   ·rw[hx]at z;cases z
    exact wpAny_getItem_of (PI i t) (uD e1 b c d).mapOf z2 (K4.now S r q ⟨_,rfl⟩)
  |_=>rw[tW kv (by intro j z;cases z)]at hx;cases hx
 |t kt c d=>
  cases kr with
  |bM tk tz=>
   rename_i l a'
   rcases mG kt l with⟨z,_⟩|⟨y,a2,u,z,z2,r⟩
   ·rw[hx]at z;cases z
   ·rw[hx]at z;cases z
    exact wpAny_getItem_heap (knd:=W.tk) (iS (by have:=rm.cLine;lia)) tk (pC e1 kt c d) z2 (K4.now S r q ⟨_,rfl⟩)
  |_=>rw[DE kt (by intro j z;cases z)]at hx;cases hx
theorem QA{P:Prop}{xs:List PV}{i:Int}{z:PV}(h:xP xs i=some z)(k1:∀j:Nat,i=j->j<xs.length->xs[j]? =some z->P)(k2:∀j:Nat,i<0->(xs.length:Int)+i=j->j<xs.length->xs[j]? =some z->P):P:=by
 have lt:∀{j:Nat},xs[j]? =some z->j<xs.length:=λ e=>(D3.mp e).1
 unfold xP at h
 by_cases c:0<=i
 ·rw[F7 c]at h
  exact k1 i.toNat (Int.toNat_of_nonneg c).symm (lt h) h
 ·rw[G0 c]at h
  by_cases d:0<=(xs.length:Int)+i
  ·rw[F7 d]at h
   exact k2 ((xs.length:Int)+i).toNat (Int.not_le.mp c) (Int.toNat_of_nonneg d).symm (lt h) h
  ·rw[G0 d]at h;cases h
theorem no{α:Type}{x:α}{P:Prop}(h:none=some x):P:=by cases h
theorem PF{C:PV->PV->Prop}{x y z:PV}(h:gD σ x y=some z)(kl:∀a xs i,σ a=some (.list xs)->xP xs i=some z->C (.ref a) (.int i))(kd:∀a es ep k,σ a=some (.dict es ep)->keyOf y=some k->es.lookup k=some z->C (.ref a) y)(kt:∀xs i,xP xs i=some z->C (.tup xs) (.int i)):C x y:=
 dA (P:=λ x=>C x y) x h (λ h=>AQ (P:=λ x=>C x y) x h no λ xs h=>dC (P:=C (.tup xs)) y h no λ i h=>kt xs i h) λ a h=>
  lD (P:=λ o=>σ a=o->C (.ref a) y) (σ a) h (λ h e=>dB (P:=λ o=>σ a=o->C (.ref a) y) (σ a) h no (λ xs h e=>dC (P:=C (.ref a)) y h no λ i h=>kl a xs i e h) e)
   (λ es ep h e=>let⟨k,e2,e3⟩:=gI.mp h;kd a es ep k e e2 e3) rfl
theorem VY{j n:Nat}{i:Int}(h:j<n)(hi:(if i<0 then i+n else i)=j):seqIndex? i n=some j:=by
 show(if(decide (0<=(if i<0 then i+n else i))&&decide ((if i<0 then i+n else i)<(n:Int)))=true then some (if i<0 then i+n else i).toNat else none)=_
 rw[hi,H3 (G6 j),H3 (T7.mpr h)];rfl
theorem NK{x y z:PV}{v u:Value}(rm:Rm n A)(S:SR W σ s.heap)(rx:VR s.heap x v)(ry:VR s.heap y u)(h:gD σ x y=some z)(q:Q z σ):
  wpAny W.M A (getItem v u) (K4 W σ s Q) (λ _ _=>False) s:=
 PF (C:=λ x y=>VR s.heap x v->VR s.heap y u->wpAny W.M A (getItem v u) (K4 W σ s Q) (λ _ _=>False) s) h
  (λ a xs i e h rx ry=>rx.tF (P:=λ v=>wpAny W.M A (getItem v u) (K4 W σ s Q) (λ _ _=>False) s)<|ry.mD (P:=λ u=>wpAny W.M A (getItem (.ref a) u) (K4 W σ s Q) (λ _ _=>False) s) λ t=>by
   refine ee2.e (S.list e) λ vs k hZ=>?_;delta hZ e1 r1 b1
   have l1:=r1.length
   refine QA h (λ j ej lt hz=>?_) λ j Wc ej lt hz=>?_
   ·clear h ry;subst ej
    refine A0 (r1.get hz) λ v hZ=>?_;delta hZ e2 r2
    exact wpAny_getItem_list (Q3 e1) (G6 j) (by lia) (by rw[dF];exact e2) (K4.now S r2 q ⟨_,rfl⟩)
   ·refine A0 (r1.get hz) λ v hZ=>?_;delta hZ e2 r2
    exact wpAny_getItem_list_neg (Q3 e1) Wc (by rw[H0];lia) (by lia) (by
     rw[H0,l1,dF,Int.add_comm,ej];exact e2) (K4.now S r2 q ⟨_,rfl⟩))
  (λ a es ep k e e2 e3 rx ry=>rx.tF (P:=λ v=>wpAny W.M A (getItem v u) (K4 W σ s Q) (λ _ _=>False) s) (HF rm S e (yU ry e2) e3 q))
  (λ xs i h rx ry=>rx.xM (P:=λ v=>wpAny W.M A (getItem v u) (K4 W σ s Q) (λ _ _=>False) s) λ a vs t r1 zz=>ry.mD (P:=λ u=>wpAny W.M A (getItem (.ref a) u) (K4 W σ s Q) (λ _ _=>False) s) λ tk=>by
   have l1:=r1.length
   refine QA h (λ j ej lt hz=>?_) λ j Wc ej lt hz=>?_
   ·clear h ry;subst ej
    refine A0 (r1.get hz) λ v hZ=>?_;delta hZ e2 r2
    exact getItem_tuple t (by lia) (by lia) (j:=j) (VY (by rw[H0,l1];exact lt) (G0 (Int.not_lt.mpr (G6 j)))) (by rw[dF];exact e2) (K4.now S r2 q ⟨_,rfl⟩)
   ·refine A0 (r1.get hz) λ v hZ=>?_;delta hZ e2 r2
    exact getItem_tuple t (by lia) (by lia) (j:=j) (VY (by rw[H0,l1];exact lt) (by rw[F7 Wc,H0,l1,Int.add_comm,ej])) (by rw[dF];exact e2) (K4.now S r2 q ⟨_,rfl⟩)) rx ry
end
end
section
open PySem.SeqAt (EqAt RcAt RcNeAt)
theorem tS{f g:String}(h:Str.ofString f=Str.ofString g):f=g:=by
 rw[Str.ofString_eq_toList,Str.ofString_eq_toList]at h
 have h2:f.toList.map Char.toNat=g.toList.map Char.toNat:=by
  have:=C7 Str.cps h
  simpa using this
 have inj:Function.Injective Char.toNat:=λ a b e=>by
  apply Char.ext;apply UInt32.toNat_inj.mp;exact e
 have:f.toList=g.toList:=(List.map_inj_right (λ a b e=>inj e)).mp h2
 exact String.toList_injective this
theorem xA(f:String)(y:PV):∀fs:List (String×PV),(lS f y fs).length<=fs.length+1
 |[]=>D7 _
 |(g,z)::r=>by have:=xA f y r;show(if g=f then(f,y)::r else(g,z)::lS f y r).length<=_;split<;>simp only[H5]<;>lia
section
variable{W:Wd}{n:Nat}{A:Around}{s:Shared}{σ:PH}{Q:PV->PH->Prop}
theorem aI.find{h:Heap}{C:Addr}{fs:List (String×PV)}{es:List DictEntry}(x:aI W h C fs es)(f:String):
  (fs.lookup f=none∧es.find? (·.key.isStr (Str.ofString f))=none)∨∃y e,fs.lookup f=some y∧es.find? (·.key.isStr (Str.ofString f))=some e∧VR h y e.val∧xL W.K C (Str.ofString f):=by
 induction x with
 |nil=>exact .inl ⟨rfl,rfl⟩
 |@cons g y e fs es hk hv hf _ ih=>
  intros hk t hk
  by_cases q:f=g
  ·subst q
   exact .inr ⟨y,e,List.lookup_cons_self,List.find?_cons_of_pos (by rw[hk];exact O2 _),hv,hf⟩
  ·have q1:(f==g)=false:=O0.mpr q
   have q2:e.key.isStr (Str.ofString f)=false:=by
    rw[hk];exact O0.mpr λ z=>q (tS z.symm)
   rw[I1,q1,List.find?_cons,q2]
   exact ih
theorem aI.noRef{h:Heap}{C:Addr}{fs:List (String×PV)}{es:List DictEntry}(x:aI W h C fs es):es.any (·.refKey)=false:=by
 induction x with
 |nil=>rfl
 |cons hk _ _ _ ih=>intros hk t hk;rw[List.any_cons,ih];simp[DictEntry.refKey,hk]
theorem aI.length{h:Heap}{C:Addr}{fs:List (String×PV)}{es:List DictEntry}(x:aI W h C fs es):es.length=fs.length:=by
 induction x with
 |nil=>rfl
 |cons _ _ _ _ ih=>simp[ih]
theorem aI.getL{h:Heap}{C:Addr}{fs:List (String×PV)}{es:List DictEntry}(x:aI W h C fs es)(f:String):
  (fs.lookup f=none∧PySem.W.getL (Str.ofString f) es=some none)∨∃y v,fs.lookup f=some y∧PySem.W.getL (Str.ofString f) es=some (some v)∧VR h y v∧xL W.K C (Str.ofString f):=by
 rcases x.find f with⟨a,b⟩|⟨y,e,a,b,c,d⟩
 ·refine .inl ⟨a,?_⟩
  unfold PySem.W.getL;rw[b,x.noRef];rfl
 ·refine .inr ⟨y,e.val,a,?_,c,d⟩
  unfold PySem.W.getL;rw[b]
theorem aI.put{h:Heap}{C:Addr}{fs:List (String×PV)}{es:List DictEntry}(x:aI W h C fs es){f:String}{y:PV}{v:Value}(hk:xL W.K C (Str.ofString f))(r:VR h y v)(Zx:Int)(t:Tok):
  aI W h C (lS f y fs) (putL (Str.ofString f) Zx (.str (Str.ofString f) t) v es):=by
 induction x with
 |nil=>exact .cons ⟨t,rfl⟩ r hk .nil
 |@cons g z e fs es TI hv hf hr ih=>
  intros TI t' TI
  by_cases q:g=f
  ·clear ih hk;subst q
   have q2:e.key.isStr (Str.ofString g)=true:=by rw[TI];exact O2 _
   show aI W h C (if g=g then(g,y)::fs else _) (if e.key.isStr (Str.ofString g)=true then⟨e.hash,e.key,v⟩::es else _)
   rw[F7 rfl,F7 q2]
   exact .cons ⟨t',TI⟩ r hf hr
  ·have q2:e.key.isStr (Str.ofString f)=false:=by
    rw[TI];exact O0.mpr λ z=>q (tS z)
   show aI W h C (if g=f then _ else(g,z)::lS f y fs) (if e.key.isStr (Str.ofString f)=true then _ else e::putL (Str.ofString f) Zx (.str (Str.ofString f) t) v es)
   rw[G0 q,G0 (by rw[q2];exact C5)]
   exact .cons ⟨t',TI⟩ hv hf ih
theorem SR.inst{σ:PH}{h:Heap}(S:SR W σ h){a C dx:Addr}{fs:List (String×PV)}(e:σ a=some (.inst C dx))(e':σ dx=some (.attrs C fs)):
  ∃es k,aI W h C fs es∧h.get? dx=some (dictOf es k)∧InstAt h a ⟨.ref C,some dx,.plain,#[]⟩ C (some (dictOf es k)):=by
 refine A0 (S.obj a _ e) λ ob hZ=>?_;delta hZ e1 r
 refine A0 (S.obj dx _ e') λ od hZ=>?_;delta hZ e2 r2
 cases r with|inst=>
  cases r2 with|@attrs _ _ es k r2=>exact⟨es,k,r2,e2,⟨e1,rfl,rfl,e2⟩⟩
theorem VR.handed{h:Heap}{x:PV}{v:Value}(r:VR h x v):handedIn v=true:=by cases r<;>rfl
theorem xL.find{h:Heap}{K:Frag}{C:Addr}{name:Str}(k:xL K C name){es:List DictEntry}{n:Nat}{v:Value}(e:PySem.W.getL name es=some (some v)):findObj K C (some (dictOf es n)) name=some (.value v):=by
 have hd:=k.dict
 unfold hasDictIn at hd
 refine A0 (any_some hd) λ cd hZ=>?_;delta hZ hc hd
 unfold findObj
 rw[hc,k.no]
 simp -iota only[Option.bind_some]
 unfold PySem.W.ownOf
 rw[hd]
 show(lookIn name (dictOf es n)).bind _=_
 rw[lookIn_dict,e];rfl
theorem UY{α:Type}{p:Prop}[Decidable p]{o:Option α}{y:α}(h:(if p then o else none)=some y):p∧o=some y:=by
 by_cases c:p
 ·rw[F7 c]at h;exact⟨c,h⟩
 ·rw[G0 c]at h;cases h
theorem YE{C:PV->Prop}{x y:PV}{f:String}(h:fld σ x f=some y)(k:∀a D dx fs,σ a=some (.inst D dx)->σ dx=some (.attrs D fs)->fs.lookup f=some y->C (.ref a)):C x:=
 dA x h no λ a h=>AS (P:=λ o=>σ a=o->C (.ref a)) (σ a) h no (λ D dx h e=>AT (P:=λ o=>σ dx=o->C (.ref a)) (σ dx) h no (λ D' fs h e'=>k a D dx fs e ((UY h).1▸e') (UY h).2) rfl) rfl
theorem NL(hW:W.Ok){x y:PV}{v:Value}{f:String}{b:Bool}(S:SR W σ s.heap)(rx:VR s.heap x v)(h:fld σ x f=some y)(q:Q y σ):
  wpAny W.M A (getAttr v (Str.ofString f) b) (K4 W σ s Q) (λ _ _=>False) s:=
 YE (C:=λ x=>VR s.heap x v->wpAny W.M A (getAttr v (Str.ofString f) b) (K4 W σ s Q) (λ _ _=>False) s) h (λ a D dx fs e e' h rx=>rx.tF (P:=λ v=>wpAny W.M A (getAttr v (Str.ofString f) b) (K4 W σ s Q) (λ _ _=>False) s)<|by
  refine ee2.e (S.inst e e') λ es k hZ=>?_;delta hZ r e1 I
  rcases r.getL f with⟨z,_⟩|⟨y',v,z,z2,r2,k2⟩
  ·exact no (z.symm.trans h)
  ·obtain rfl:y'=y:=H1 (z.symm.trans h)
   exact get_value (hW.IB.keeps S.keep) I k2.ga (k2.find (h:=s.heap) z2) r2.handed (K4.now S r2 q ⟨_,rfl⟩)) rx
theorem MB(hW:W.Ok){a C dx:Addr}{y:PV}{v:Value}{f:String}{fs:List (String×PV)}{R:Unit->Shared->Prop}(S:SR W σ s.heap)(e:σ a=some (.inst C dx))(e':σ dx=some (.attrs C fs))
  (k:xL W.K C (Str.ofString f))(hz:fs.length<=100)(r:VR s.heap y v)
  (q:∀h' tk,SR W (σ.set dx (.attrs C (lS f y fs))) h'->kB σ s.heap (σ.set dx (.attrs C (lS f y fs))) h'->R () {s with heap:=h',toks:=tk}):
  wpAny W.M A (setAttr (.ref a) (Str.ofString f) v) R (λ _ _=>False) s:=by
 refine ee2.e (S.inst e e') λ es n hZ=>?_;delta hZ ra e1 I
 have X:=hW.IB.keeps S.keep
 have hl:=ra.length
 refine set_plain X I k.sa (osa_open (s:={s with toks:=s.toks+1}) (r:=none) X I k.over (by unfold takerIn;rw[k.no];rfl) λ b=>?_)
 have hd:=k.dict
 unfold hasDictIn at hd
 refine A0 (any_some hd) λ cd hZ=>?_;delta hZ hc hd
 have P:=putName_dict (Str.ofString f) (PyData.keyHash W.w.params (Str.ofString f)) (.str (Str.ofString f) (s.toks+1)) v es n
 have Zg:=ra.put k r (PyData.keyHash W.w.params (Str.ofString f)) (s.toks+1)
 have b8:=Zg.length
 have hp:=xA f y fs
 have D':(s.heap.update dx (Obj.putName (Str.ofString f) (PyData.keyHash W.w.params (Str.ofString f)) (.str (Str.ofString f) (s.toks+1)) v)).get? dx=some (dictOf (putL (Str.ofString f) (PyData.keyHash W.w.params (Str.ofString f)) (.str (Str.ofString f) (s.toks+1)) v es) (putN (Str.ofString f) es n)):=by
  rw[Heap.get?_update_self _ e1 (by rw[P];rfl),P]
 have hZ:=S.upd e' (cW s.heap dx _) D' (.attrs Zg);delta hZ S' x'
 refine B6 (D4 (B6 (B6 (wpAny_loadPart I.at_ (B6 (looks_clsIn X hc _ _ _ _ (λ _ _ e=>e) ?_))))))
 rw[hd]
 refine D4 (a:=some dx) (B6 (D4 (B6 ?_)))
 unfold nsSet
 refine B6 (B6 (wpAny_askSetting (D4 (B6 (wpAny_mkText (B6 (wpAny_loadPart e1 ?_)))))))
 have c:(!es.toArray.any (·.key.isStr (Str.ofString f))&&es.toArray.any (·.refKey))=false:=by
  simp[ra.noRef]
 dsimp only
 rw[aRefKeyMayBeTheName_at,c]
 refine wpAny_updatePart e1 ?_
 refine B6 (wpAny_lookBehind D' (pastItsLine_dict (by rw[H0,K0];lia)) ?_)
 exact D4 (q _ _ S' x')
end
end
section
open PySem.SeqAt (EqAt RcAt RcNeAt)
theorem Ik(i:Int)(n:Nat)(h:0<=i):(if(1:Int)>0 then max 0 (min (if i<0 then i+n else i) (n:Int))else max (-1) (min (if i<0 then i+n else i) ((n:Int) - 1)))=((min i.toNat n:Nat):Int):=by
 refine A0 (cB h) λ k hZ=>?_;obtain rfl:=hZ
 rw[F7 Int.zero_lt_one,G0 (Int.not_lt.mpr h),aZ]
 rcases Nat.le_total k n with g|g
 ·rw[Int.min_eq_left (Int.ofNat_le.mpr g),fX g];exact Int.max_eq_right h
 ·rw[Int.min_eq_right (Int.ofNat_le.mpr g),Nat.min_eq_right g];exact Int.max_eq_right (G6 n)
theorem UM(lo hi:Option Int)(n:Nat)(hl:DA lo=true)(hh:DA hi=true):sliceBounds lo hi none n=(((min (Qg lo) n:Nat):Int),((min (Qx hi n) n:Nat):Int),1):=by
 have h1:(sliceBounds lo none none n).1=((min (Qg lo) n:Nat):Int):=match lo,hl with
  |none,_=>C7 Int.ofNat (Nat.zero_min n).symm
  |some i,h=>Ik i n (D0 h).1
 have h2:(sliceBounds none hi none n).2.1=((min (Qx hi n) n:Nat):Int):=match hi,hh with
  |none,_=>C7 Int.ofNat (Nat.min_self n).symm
  |some i,h=>Ik i n (D0 h).1
 exact congr (C7 Prod.mk h1) (congr (C7 Prod.mk h2) rfl)
theorem GC(vs:List Value)(lo hi:Option Int)(hl:DA lo=true)(hh:DA hi=true):slicePick vs.toArray lo hi none=(fD vs lo hi).toArray:=by
 have e:=UM lo hi vs.length hl hh
 unfold slicePick fD
 rw[H0,e]
 generalize Qg lo=a
 generalize Qx hi vs.length=b
 show((sliceRange ((min a vs.length:Nat):Int) ((min b vs.length:Nat):Int) 1).filterMap (vs.toArray[·]?)).toArray=_
 have r:sliceRange ((min a vs.length:Nat):Int) ((min b vs.length:Nat):Int) 1=(List.range (min b vs.length - min a vs.length)).map (min a vs.length+·):=by
  have key:∀x y:Nat,sliceRange (x:Int) (y:Int) 1=(List.range (y - x)).map (x+·):=λ x y=>by
   show(List.range (Int.toNat (if(1:Int)>0 then(if(x:Int)<y then((y:Int) - x+1 - 1)/1 else 0)else _))).map (λ k:Nat=>((x:Int)+1*(k:Int)).toNat)=_
   rw[F7 Int.zero_lt_one,show(λ k:Nat=>((x:Int)+1*(k:Int)).toNat)=(x+·)from funext λ k=>by rw[Int.one_mul];rfl]
   congr 2
   by_cases c:x<y
   ·rw[F7 (T7.mpr c),Int.ediv_one,Int.add_sub_cancel,<-Int.ofNat_sub (M8 c)];rfl
   ·rw[G0 (λ h=>c (T7.mp h)),jB (jN c)];rfl
  exact key _ _
 rw[r,pick_run]
 congr 1
 show(vs.drop (min a vs.length)).take _=(vs.take b).drop a
 rw[List.drop_take]
 by_cases c:a<=vs.length
 ·rw[fX c]
  by_cases d:b<=vs.length
  ·rw[fX d]
  ·have d:=Nat.le_of_not_le d
   rw[Nat.min_eq_right d,hX (X0 (U7 ..)),hX (by rw[U7];exact Nat.sub_le_sub_right d a)]
 ·have c:=Nat.le_of_not_le c
  rw[Nat.min_eq_right c,List.drop_length,List.drop_of_length_le c,List.take_nil,List.take_nil]
end
section
open PySem.SeqAt (EqAt RcAt RcNeAt)
section
variable{W:Wd}{n:Nat}{A:Around}{s:Shared}{σ:PH}{Q:PV->PH->Prop}
def bT(W:Wd)(σ:PH)(s:Shared)(Q:Bool->PH->Prop):Bool->Shared->Prop:=λ b s'=>∃B9,Q b B9∧SR W B9 s'.heap∧kB σ s.heap B9 s'.heap∧Sm s s'
theorem bT.now{Q:Bool->PH->Prop}{b:Bool}(S:SR W σ s.heap)(q:Q b σ){s':Shared}(hs:∃t,s'={s with toks:=t}):bT W σ s Q b s':=by
 intros hs t hZ;obtain rfl:=hZ;exact⟨σ,q,S,.refl _ _,⟨s.heap,t,rfl⟩⟩
theorem FV{x:PV}{v:Value}{b:Bool}{Q:Bool->PH->Prop}(S:SR W σ s.heap)(rx:VR s.heap x v)(h:zI σ x=some b)(q:Q b σ):wpAny W.M A (truthy v) (bT W σ s Q) (λ _ _=>False) s:=match x,rx,h with
 |.none,rx,h=>rx.WX (P:=λ v=>wpAny W.M A (truthy v) (bT W σ s Q) (λ _ _=>False) s) (truthy_none (bT.now S (H1 h▸q) ⟨_,rfl⟩))
 |.bool c,rx,h=>rx.Si (P:=λ v=>wpAny W.M A (truthy v) (bT W σ s Q) (λ _ _=>False) s) (kF (bT.now S (H1 h▸q) ⟨_,rfl⟩))
 |.int i,rx,h=>rx.mD (P:=λ v=>wpAny W.M A (truthy v) (bT W σ s Q) (λ _ _=>False) s) λ t=>by
  refine PyProof.Rows.truthy_int ?_
  rw[show(i !=0)=decide (i≠0)from by by_cases h:i=0<;>simp[h],H1 h];exact bT.now S q ⟨_,rfl⟩
 |.str x,rx,h=>rx.qC (P:=λ v=>wpAny W.M A (truthy v) (bT W σ s Q) (λ _ _=>False) s) λ t z=>by
  rw[K0]at z
  refine PySem.P.truthy_str (by lia) ?_
  rw[show((x.length:Int) !=0)=decide (x.length≠0)from by by_cases h:x.length=0<;>simp[h],H1 h];exact bT.now S q ⟨_,rfl⟩
 |.ref a,rx,h=>rx.tF (P:=λ v=>wpAny W.M A (truthy v) (bT W σ s Q) (λ _ _=>False) s)<|dB (P:=λ o=>σ a=o->wpAny W.M A (truthy (.ref a)) (bT W σ s Q) (λ _ _=>False) s) (σ a) h no (λ xs h e=>by
  refine ee2.e (S.list e) λ vs k hZ=>?_;delta hZ e1 r z
  refine wpAny_truthy_list (Q3 e1) (by rw[H0,r.length];lia) ?_
  rewrite[show(!(vs.toArray).isEmpty)=!xs.isEmpty from by clear e1 e h z;cases r<;>rfl,H1 h];exact bT.now S q ⟨_,rfl⟩) rfl
 |.tup _,_,h|.rY _ _,_,h|.M7,_,h=>no h
theorem Ke{x:PV}{v:Value}(S:SR W σ s.heap)(rx:VR s.heap x v){i:Int}(h:x=.int i)(q:Q (.int (-i)) σ):wpAny W.M A (unaryOp .USub v) (K4 W σ s Q) (λ _ _=>False) s:=by
 subst h
 cases rx
 exact PyProof.Rows.neg_int (K4.now S (.int _ _) q ⟨_,rfl⟩)
theorem Mg(rm:Rm n A){x y:Addr}{b:Bool}(S:SR W σ s.heap)(h:Ii σ x y=some b):RcAt A s (.ref x) (.ref y) b∧RcNeAt A s (.ref x) (.ref y) (!b):=
 dB (P:=λ o=>σ x=o->RcAt A s (.ref x) (.ref y) b∧RcNeAt A s (.ref x) (.ref y) (!b)) (σ x) h no (λ xs h e1=>dB (P:=λ o=>σ y=o->RcAt A s (.ref x) (.ref y) b∧RcNeAt A s (.ref x) (.ref y) (!b)) (σ y) h no (λ ys h e2=>by
  have hZ:=UY h;delta hZ hf h
  obtain rfl:BR xs ys=b:=H1 h
  have hu:=rm.u
  have Tt:A.in1.units<cLine:=H8 (J6 _ _) rm.in1
  refine ee2.e (S.list e1) λ vs k hZ=>?_;delta hZ g1 r1 z1
  refine ee2.e (S.list e2) λ us k' hZ=>?_;delta hZ g2 r2 z2
  have l1:=r1.length
  have l2:=r2.length
  by_cases hl:xs.length=ys.length
  ·have he:∀j (h1:j<vs.toArray.size) (h2:j<us.toArray.size),EqAt A.in1 s vs.toArray[j] us.toArray[j] ((λ j=>KB (xs.getD j .none) (ys.getD j .none)) j):=λ j h1 h2=>
    vX Tt (uJ hf.1 (l1▸h1)) (uJ hf.2 (l2▸h2)) (r1.getElem h1) (r2.getElem h2)
   have ez:vs.toArray.size=us.toArray.size:=l1.trans (hl.trans l2.symm)
   have h1:=RcAt.lists (Q3 g1) (Q3 g2) ez hu he
   have h2:=RcNeAt.lists (Q3 g1) (Q3 g2) ez hu he
   rw[BQ hl,<-l1]
   exact⟨h1,h2⟩
  ·rw[JZ hl]
   have ne:(vs.toArray.size !=us.toArray.size)=true:=bG.mpr λ e=>hl (l1.symm.trans (e.trans l2))
   exact⟨RcAt.lists_lengths (Q3 g1) (Q3 g2) ne hu,RcNeAt.lists_lengths (Q3 g1) (Q3 g2) ne hu⟩) rfl) rfl
theorem Ih(rm:Rm n A){x y:PV}{v u:Value}{b:Bool}(S:SR W σ s.heap)(rx:VR s.heap x v)(ry:VR s.heap y u)(h:Bi σ x y=some b):RcAt A s v u b∧RcNeAt A s v u (!b):=
 dA (P:=λ x=>VR s.heap x v->RcAt A s v u b∧RcNeAt A s v u (!b)) x h (λ h rx=>by
   have hZ:=UY h;delta hZ hf h
   obtain rfl:vV x y=b:=H1 h
   exact qK (P:=λ x=>VR s.heap x v->RcAt A s v u (vV x y)∧RcNeAt A s v u (!vV x y)) hf.1
    (λ i rx=>rx.mD (P:=λ v=>RcAt A s v u (vV (.int i) y)∧RcNeAt A s v u (!vV (.int i) y)) λ t=>qK (P:=λ y=>VR s.heap y u->RcAt A s (.int i t) u (vV (.int i) y)∧RcNeAt A s (.int i t) u (!vV (.int i) y)) hf.2
     (λ j ry=>ry.mD (P:=λ u=>RcAt A s (.int i t) u (decide (i=j))∧RcNeAt A s (.int i t) u (!decide (i=j))) λ t'=>⟨RcAt.int_int i t j t',RcNeAt.int_int i t j t'⟩)
     (λ j ry=>ry.qC (P:=λ u=>RcAt A s (.int i t) u false∧RcNeAt A s (.int i t) u true) λ t' _=>⟨RcAt.int_str i t j t',RcNeAt.int_str i t j t'⟩) ry)
    (λ i rx=>rx.qC (P:=λ v=>RcAt A s v u (vV (.str i) y)∧RcNeAt A s v u (!vV (.str i) y)) λ t _=>qK (P:=λ y=>VR s.heap y u->RcAt A s (.str i t) u (vV (.str i) y)∧RcNeAt A s (.str i t) u (!vV (.str i) y)) hf.2
     (λ j ry=>ry.mD (P:=λ u=>RcAt A s (.str i t) u false∧RcNeAt A s (.str i t) u true) λ t'=>⟨RcAt.str_int i t j t',RcNeAt.str_int i t j t'⟩)
     (λ j ry=>ry.qC (P:=λ u=>RcAt A s (.str i t) u (decide (i=j))∧RcNeAt A s (.str i t) u (!decide (i=j))) λ t' _=>⟨RcAt.str_str i t j t',RcNeAt.str_str i t j t'⟩) ry) rx)
  (λ a h rx=>dA (P:=λ y=>VR s.heap y u->RcAt A s v u b∧RcNeAt A s v u (!b)) y h no (λ c h ry=>rx.tF (P:=λ v=>RcAt A s v u b∧RcNeAt A s v u (!b)) (ry.tF (P:=λ u=>RcAt A s (.ref a) u b∧RcNeAt A s (.ref a) u (!b)) (Mg rm S h))) ry) rx
theorem KV.nil_of{K:Type}{f:K->PK}{p:PK->Bool}{h:Heap}{es:List (PK×PV)}{q:List (K×Value)}(x:KV f h es q)(hp:∀k,p (f k)=false)(ha:es.all (λ e=>p e.1)=true):es=[]∧q=[]:=by
 cases x with
 |nil=>exact⟨rfl,rfl⟩
 |cons=>exact absurd ((hp _).symm.trans (bt ha).1) C5
theorem KT.nil_of{p:PK->Bool}{h:Heap}{es:List (PK×PV)}{q:List (List Int×Addr×Value)}(x:KT W h es q)(hp:∀k,p (.bM k)=false)(ha:es.all (λ e=>p e.1)=true):es=[]∧q=[]:=by
 cases x with
 |nil=>exact⟨rfl,rfl⟩
 |cons=>exact absurd ((hp _).symm.trans (bt ha).1) C5
theorem NO{ds:Array DictEntry}(h:ds.toList=[]):ds=#[]:=Array.ext' h
theorem Pairs.nil_of{K:Type}[DecidableEq K]{kn:PySem.KeyKind W.prog W.w K}{l:List DictEntry}(x:Pairs kn l []):l=[]:=by cases x;rfl
theorem DR.Pb{h:Heap}{k:Nat}{es:List (PK×PV)}{ob:Obj}(x:DR W h k es ob){i:Int}(hs:U3 (.int i) es=true):
  ∃ds kvs,ob=⟨.type "dict",none,.dict ds k,#[]⟩∧KV PK.int h es kvs∧KeysOf W.ik ds∧Pairs W.ik ds.toList kvs∧(kvs.map (·.1)).Nodup:=by
 have em:es=[]->∀ds:Array DictEntry,ds.toList=[]->∃Bk kvs,(⟨.type "dict",none,.dict ds k,#[]⟩:Obj)=⟨.type "dict",none,.dict Bk k,#[]⟩∧KV PK.int h es kvs∧KeysOf W.ik Bk∧Pairs W.ik Bk.toList kvs∧(kvs.map (·.1)).Nodup:=λ e ds hd=>by
  clear hs x;subst e;obtain rfl:=NO hd;exact⟨#[],[],rfl,.nil,λ e he=>by simp at he,.nil,.nil⟩
 cases x with
 |@i ds kvs a b c d=>exact⟨ds,kvs,rfl,a,b,c,d⟩
 |@s ds kvs a b c d=>have hZ:=a.nil_of (p:=HA) (λ _=>rfl) hs;generalize hZ.1=e;clear a d;obtain rfl:=hZ.2;try clear hZ;exact em e ds (Pairs.nil_of c)
 |@t ds xs a c d=>have hZ:=a.nil_of (p:=HA) (λ _=>rfl) hs;generalize hZ.1=e;clear a d hs i;obtain rfl:=hZ.2;try clear hZ;exact em e ds c
theorem DR.toS{h:Heap}{k:Nat}{es:List (PK×PV)}{ob:Obj}(x:DR W h k es ob){i:Str}(hs:U3 (.str i) es=true):
  ∃ds kvs,ob=⟨.type "dict",none,.dict ds k,#[]⟩∧KV PK.str h es kvs∧KeysOf W.sk ds∧Pairs W.sk ds.toList kvs∧(kvs.map (·.1)).Nodup:=by
 have em:es=[]->∀ds:Array DictEntry,ds.toList=[]->∃Bk kvs,(⟨.type "dict",none,.dict ds k,#[]⟩:Obj)=⟨.type "dict",none,.dict Bk k,#[]⟩∧KV PK.str h es kvs∧KeysOf W.sk Bk∧Pairs W.sk Bk.toList kvs∧(kvs.map (·.1)).Nodup:=λ e ds hd=>by
  clear hs x;subst e;obtain rfl:=NO hd;exact⟨#[],[],rfl,.nil,λ e he=>by simp at he,.nil,.nil⟩
 cases x with
 |@s ds kvs a b c d=>exact⟨ds,kvs,rfl,a,b,c,d⟩
 |@i ds kvs a b c d=>have hZ:=a.nil_of (p:=jT) (λ _=>rfl) hs;generalize hZ.1=e;clear a d;obtain rfl:=hZ.2;try clear hZ;exact em e ds (Pairs.nil_of c)
 |@t ds xs a c d=>have hZ:=a.nil_of (p:=jT) (λ _=>rfl) hs;generalize hZ.1=e;clear a d hs i;obtain rfl:=hZ.2;try clear hZ;exact em e ds c
theorem DR.toT{h:Heap}{k:Nat}{es:List (PK×PV)}{ob:Obj}(x:DR W h k es ob){i:List Int}(hs:U3 (.bM i) es=true):
  ∃ds xs,ob=⟨.type "dict",none,.dict ds k,#[]⟩∧KT W h es xs∧ds.toList=xs.map (entryOfKey W.tk)∧(xs.map (·.1)).Nodup:=by
 have em:es=[]->∀ds:Array DictEntry,ds.toList=[]->∃Bk xs,(⟨.type "dict",none,.dict ds k,#[]⟩:Obj)=⟨.type "dict",none,.dict Bk k,#[]⟩∧KT W h es xs∧Bk.toList=xs.map (entryOfKey W.tk)∧(xs.map (·.1)).Nodup:=λ e ds hd=>by
  clear hs x;subst e;obtain rfl:=NO hd;exact⟨#[],[],rfl,.nil,rfl,.nil⟩
 cases x with
 |@t ds xs a c d=>exact⟨ds,xs,rfl,a,c,d⟩
 |@i ds kvs a b c d=>have hZ:=a.nil_of (p:=jR) (λ _=>rfl) hs;generalize hZ.1=e;clear a d;obtain rfl:=hZ.2;try clear hZ;exact em e ds (Pairs.nil_of c)
 |@s ds kvs a b c d=>have hZ:=a.nil_of (p:=jR) (λ _=>rfl) hs;generalize hZ.1=e;clear a d;obtain rfl:=hZ.2;try clear hZ;exact em e ds (Pairs.nil_of c)
def KS(W:Wd)(A:Around)(s:Shared)(v u:Value)(b:Bool):Prop:=(∀R:Value->Shared->Prop,(∀t,R (.bool b) {s with toks:=t})->wpAny W.M A (compareOp .In v u) R (λ _ _=>False) s)∧
 (∀R:Value->Shared->Prop,(∀t,R (.bool (!b)) {s with toks:=t})->wpAny W.M A (compareOp .NotIn v u) R (λ _ _=>False) s)
theorem XD(rm:Rm n A){x:PV}{v:Value}{b:Bool}{xs:List PV}{vs:List Value}(rx:VR s.heap x v)(r1:bO s.heap xs vs)(h:DB x xs=some b):(∀y,y∈vs.toArray->EqAt A.in1 s y v (vW s.heap x xs y))∧vs.toArray.any (vW s.heap x xs)=b:=by
 have hZ:=UY h;delta hZ hf h
 obtain rfl:_=b:=H1 h
 refine⟨λ y hy=>?_,by rw[<-Aj hf.2 r1,List.any_toArray]⟩
 refine A0 (r1.mem (List.mem_toArray.mp hy)) λ w hZ=>?_;delta hZ hw Ju
 rw[yZ hf.2 hw Ju]
 exact vX (H8 (J6 _ _) rm.in1) (G3.mp hf.2 _ hw) hf.1 Ju rx
theorem Kv(hW:W.Ok)(rm:Rm n A){v:Value}{b:Bool}{a:Addr}{es:List (PK×PV)}{ep:Nat}{k:PK}(S:SR W σ s.heap)(e:σ a=some (.dict es ep))(kr:OO W s.heap k v)(hk:U3 k es=true)(h:(es.lookup k).isSome=b):KS W A s v (.ref a) b:=by
 have hd:=hW.vP S e
 refine A0 (S.dict e) λ ob hZ=>?_;delta hZ g1 r
 subst h
 cases kr with
 |int i t=>
  refine ee2.e (r.Pb hk) λ ds kvs hZ=>?_;obtain rfl:=hZ.1;delta hZ hZ kv b c d
  have hs:(es.lookup (.int i)).isSome=(valueAt kvs i).isSome:=by
   rcases fU (λ _ _ h=>by injection h) kv i with⟨z,z'⟩|⟨y,u,z,z2,r⟩
   ·rw[z,z'];rfl
   ·rw[z,z2];rfl
  rw[hs]
  exact⟨λ R hR=>wpAny_in_of (EV i t) hd (lI g1 b c d).mapOf (hR _),λ R hR=>wpAny_notIn_of (EV i t) hd (lI g1 b c d).mapOf (hR _)⟩
 |str i t=>
  refine ee2.e (r.toS hk) λ ds kvs hZ=>?_;obtain rfl:=hZ.1;delta hZ hZ kv b c d
  have hs:(es.lookup (.str i)).isSome=(valueAt kvs i).isSome:=by
   rcases fU (λ _ _ h=>by injection h) kv i with⟨z,z'⟩|⟨y,u,z,z2,r⟩
   ·rw[z,z'];rfl
   ·rw[z,z2];rfl
  rw[hs]
  exact⟨λ R hR=>wpAny_in_of (PI i t) hd (uD g1 b c d).mapOf (hR _),λ R hR=>wpAny_notIn_of (PI i t) hd (uD g1 b c d).mapOf (hR _)⟩
 |@bM l a' tk tz=>
  refine ee2.e (r.toT hk) λ ds xs hZ=>?_;clear r;obtain rfl:=hZ.1;delta hZ hZ kt c d
  have hs:(es.lookup (.bM l)).isSome=(atKey xs l).isSome:=by
   rcases mG kt l with⟨z,z'⟩|⟨y,a2,u,z,z2,r⟩
   ·rw[z,z'];rfl
   ·rw[z,z2];rfl
  rw[hs]
  have hu:=rm.cLine
  exact⟨λ R hR=>wpAny_in_heap (knd:=W.tk) (iS (by lia)) tk hd (pC g1 kt c d) (hR _),λ R hR=>wpAny_notIn_heap (knd:=W.tk) (iS (by lia)) tk hd (pC g1 kt c d) (hR _)⟩
theorem Ht(hW:W.Ok)(rm:Rm n A){x y:PV}{v u:Value}{b:Bool}(S:SR W σ s.heap)(rx:VR s.heap x v)(ry:VR s.heap y u)(h:QO σ x y=some b):KS W A s v u b:=
 dA (P:=λ y=>VR s.heap y u->KS W A s v u b) y h (λ h ry=>AQ (P:=λ y=>VR s.heap y u->KS W A s v u b) y h no (λ xs h ry=>ry.xM (P:=λ u=>KS W A s v u b) λ a vs t r _=>
   have m:=XD rm rx r h
   ⟨λ R hR=>SeqAt.in_tupleAt (vW s.heap x xs) t m.1 (by rw[m.2];exact hR _),λ R hR=>SeqAt.notIn_tupleAt (vW s.heap x xs) t m.1 (by rw[m.2];exact hR _)⟩) ry)
  (λ a h ry=>ry.tF (P:=λ u=>KS W A s v u b) (lD (P:=λ o=>σ a=o->KS W A s v (.ref a) b) (σ a) h (λ h e=>dB (P:=λ o=>σ a=o->KS W A s v (.ref a) b) (σ a) h no (λ xs h e=>by
    refine ee2.e (S.list e) λ vs k hZ=>?_;delta hZ g1 r1 z1
    have m:=XD rm rx r1 h
    exact⟨λ R hR=>SeqAt.in_listAt (vW s.heap x xs) (Q3 g1) m.1 (by rw[m.2];exact hR _),λ R hR=>SeqAt.notIn_listAt (vW s.heap x xs) (Q3 g1) m.1 (by rw[m.2];exact hR _)⟩) e)
   (λ es ep h e=>let⟨k,e1,e2⟩:=gI.mp h;Kv hW rm S e (yU rx e1) (UY e2).1 (H1 (UY e2).2)) rfl)) ry
theorem yY{C:Value->Value->Prop}{h':Heap}{x y:PV}{v u:Value}{f:Int->Int->Bool}{r:Bool}(h:XM f x y=some r)(rx:VR h' x v)(ry:VR h' y u)(k:∀i j t t',f i j=r->C (.int i t) (.int j t')):C v u:=
 dC (P:=λ x=>VR h' x v->C v u) x h no (λ i h rx=>dC (P:=λ y=>VR h' y u->C v u) y h no (λ j h ry=>rx.mD (P:=λ v=>C v u) λ t=>ry.mD (P:=λ u=>C (.int i t) u) λ t'=>k i j t t' (H1 h)) ry) rx
theorem QM{y:PV}(h:isNone y=true):y=.none:=by cases y<;>first|rfl|cases h
theorem is_none{h':Heap}{x:PV}{v:Value}(rx:VR h' x v):(v==Value.none)=isNone x:=by cases rx<;>rfl
theorem vY(hW:W.Ok)(rm:Rm n A){op:CmpOp}{x y:PV}{v u:Value}{r:Bool}(S:SR W σ s.heap)(rx:VR s.heap x v)(ry:VR s.heap y u)(h:iP σ op x y=some r)(q:Q (.bool r) σ):
  wpAny W.M A (compareOp op v u) (K4 W σ s Q) (λ _ _=>False) s:=by
 have fin:∀t,K4 W σ s Q (.bool r) {s with toks:=t}:=λ t=>K4.now S (.bool r) q ⟨t,rfl⟩
 clear q;cases op with
 |Eq=>exact(Ih rm S rx ry h).1 _ _ _ _ (fin s.toks)
 |NotEq=>
  refine A0 (O3.mp h) λ b hZ=>?_;generalize hZ.1=e;clear h;obtain rfl:=hZ.2;try clear hZ
  exact(Ih rm S rx ry e).2 _ _ _ _ (fin s.toks)
 |In=>exact(Ht hW rm S rx ry h).1 _ fin
 |NotIn=>
  refine A0 (O3.mp h) λ b hZ=>?_;generalize hZ.1=e;clear h;obtain rfl:=hZ.2;try clear hZ
  exact(Ht hW rm S rx ry e).2 _ fin
 |Lt=>exact yY (C:=λ v u=>wpAny W.M A (compareOp .Lt v u) (K4 W σ s Q) (λ _ _=>False) s) h rx ry λ i j t t' e=>PySem.P.lt_int (e▸fin s.toks)
 |LtE=>exact yY (C:=λ v u=>wpAny W.M A (compareOp .LtE v u) (K4 W σ s Q) (λ _ _=>False) s) h rx ry λ i j t t' e=>PySem.P.le_int (e▸fin s.toks)
 |Gt=>exact yY (C:=λ v u=>wpAny W.M A (compareOp .Gt v u) (K4 W σ s Q) (λ _ _=>False) s) h rx ry λ i j t t' e=>PySem.P.gt_int (e▸fin s.toks)
 |GtE=>exact yY (C:=λ v u=>wpAny W.M A (compareOp .GtE v u) (K4 W σ s Q) (λ _ _=>False) s) h rx ry λ i j t t' e=>PySem.P.ge_int (e▸fin s.toks)
 |Is=>
  have hZ:=UY (show(if isNone y=true then some (isNone x)else none)=some r from h);delta hZ e h
  obtain rfl:=QM e
  exact ry.WX (P:=λ u=>wpAny W.M A (compareOp .Is v u) (K4 W σ s Q) (λ _ _=>False) s) (wpAny_is_plain (by cases rx<;>rfl) (by rw[is_none rx,H1 h];exact fin s.toks))
 |IsNot=>
  have hZ:=UY (show(if isNone y=true then some (!isNone x)else none)=some r from h);delta hZ e h
  obtain rfl:=QM e
  exact ry.WX (P:=λ u=>wpAny W.M A (compareOp .IsNot v u) (K4 W σ s Q) (λ _ _=>False) s) (wpAny_isNot_plain (by cases rx<;>rfl) (by rw[is_none rx,H1 h];exact fin s.toks))
end
end
section
open PySem.SeqAt (EqAt RcAt RcNeAt)
def CM(W:Wd)(σ:PH)(s:Shared)(Q:PH->Prop):Shared->Prop:=λ s'=>∃B9,Q B9∧SR W B9 s'.heap∧kB σ s.heap B9 s'.heap∧Sm s s'
theorem KV.length{K:Type}{f:K->PK}{h:Heap}{es:List (PK×PV)}{q:List (K×Value)}(x:KV f h es q):q.length=es.length:=by
 induction x with
 |nil=>rfl
 |cons _ _ ih=>simp[ih]
theorem KT.length{W:Wd}{h:Heap}{es:List (PK×PV)}{q:List (List Int×Addr×Value)}(x:KT W h es q):q.length=es.length:=by
 induction x with
 |nil=>rfl
 |cons _ _ _ ih=>simp[ih]
theorem DD{K:Type}[DecidableEq K](k:K)(v:Value)(q:List (K×Value))(h:k∉q.map (·.1)):q.map (λ kv=>if kv.1=k then(kv.1,v)else kv)=q:=by
 induction q with
 |nil=>rfl
 |cons p r ih=>
  simp only[I6,F8,not_or]at h
  simp only[I6,G0 (λ e=>h.1 e.symm:¬p.1=k),ih h.2]
theorem KV.put{K:Type}[DecidableEq K]{f:K->PK}(inj:∀a b,f a=f b->a=b){h:Heap}{es:List (PK×PV)}{q:List (K×Value)}(x:KV f h es q)(hn:(q.map (·.1)).Nodup)(k:K){y:PV}{v:Value}(r:VR h y v):
  KV f h (putK (f k) y es) (stored q k v):=by
 induction x with
 |nil=>exact .cons r .nil
 |@cons k' z u es q a b ih=>
  simp only[I6,N7]at hn
  by_cases e:k'=k
  ·subst e
   have:stored ((k',u)::q) k' v=(k',v)::q:=by
    unfold stored
    simp only[List.any_cons,decide_true,Bool.true_or,if_true,I6]
    rw[DD _ _ _ hn.1]
   rw[this,lR,F7 rfl]
   exact .cons r b
  ·have e1:¬f k'=f k:=λ z=>e (inj _ _ z)
   have:stored ((k',u)::q) k v=(k',u)::stored q k v:=by
    unfold stored
    simp only[List.any_cons,e,decide_false,Bool.false_or,I6,gX]
    split<;>rfl
   rw[this,lR,G0 e1]
   exact .cons a (ih hn.2)
theorem yB(k:List Int)(v:Value)(q:List (List Int×Addr×Value))(h:k∉q.map (·.1)):q.map (putAt k v)=q:=map_putAt_of_not_mem q k v h
theorem KT.put{W:Wd}{h:Heap}{es:List (PK×PV)}{q:List (List Int×Addr×Value)}(x:KT W h es q)(hn:(q.map (·.1)).Nodup){k:List Int}{a:Addr}(hk:IsTupleKey W.ik h k a∧k.length<=2^25){y:PV}{v:Value}(r:VR h y v):
  KT W h (putK (.bM k) y es) (storedH q k a v):=by
 induction x with
 |nil=>exact .cons hk r .nil
 |@cons k' z a' u es q TI b c ih=>
  simp only[I6,N7]at hn
  by_cases e:k'=k
  ·clear hk;subst e
   have:storedH ((k',a',u)::q) k' a v=(k',a',v)::q:=by
    unfold storedH
    simp only[atKey,List.find?_cons,decide_true,fW,Option.isSome_some,if_true,I6,putAt]
    rw[yB k' v q hn.1]
   rw[this,lR,F7 rfl]
   exact .cons TI r c
  ·have e1:¬PK.bM k'=PK.bM k:=λ z=>e (by injection z)
   have:storedH ((k',a',u)::q) k a v=(k',a',u)::storedH q k a v:=by
    unfold storedH
    have:atKey ((k',a',u)::q) k=atKey q k:=by simp[atKey,e]
    rw[this]
    simp only[I6,putAt,e,gX]
    split<;>rfl
   rw[this,lR,G0 e1]
   exact .cons TI b (ih hn.2)
section
variable{W:Wd}{n:Nat}{A:Around}{s:Shared}{σ:PH}
theorem GD{l:Addr}{vs:List Value}{m:Nat}{i:Int}{t:Tok}{v:Value}{R:Unit->Shared->Prop}{E:Value->Shared->Prop}
  (ho:s.heap.get? l=some ⟨.type "list",none,.seq vs.toArray m,#[]⟩)(h0:0<=i)(hk:i<vs.length)(hf:Builtin.List.listFitsIndex i=true)
  (hQ:∀h' m',h'.get? l=some ⟨.type "list",none,.seq (vs.set i.toNat v).toArray m',#[]⟩->Heap.SameBut l s.heap h'->R () {s with heap:=h'}):
  wpAny (model W.prog W.w) A (setItem (.ref l) (.int i t) v) R E s:=by
 have hl:=Q3 ho
 unfold setItem
 try with_reducible refine K2 ?_
 first|refine B6 (D4 ?_)|skip
 refine B6 (wpAny_sequenceKey hl.typeIs (by decide) ?_)
 refine B6 (wpAny_callSpecial?_slot (name:=Str.ofString "__setitem__") hl.typeIs slot_list_setitem (cX slot_list_setitem hl.typeIs entry_list_setitem ?_ (args_list_setitem _ _ _)))
 show wpAny _ _ (Builtin.List.listSubscript? (.int i t)>>=_) _ _ s
 refine B6 (wpAny_listSubscript_int hf ?_)
 clear hf
 refine A0 (cB h0) λ k hZ=>?_;clear h0 hl;obtain rfl:=hZ
 have TI:k<vs.length:=by lia
 have hx:vs.toArray[k]? =some vs[k]:=by simp[TI]
 show wpAny _ _ ((seqItemAt l k>>=λ r=>pure (r.map (k,·)))>>=_) _ _ s
 refine B6 (B6 (wpAny_seqItemAt ho rfl (D4 ?_)))
 rw[hx]
 show wpAny _ _ (setSeqItemAt l k v>>=_) _ _ s
 have e:Obj.mapSeq (·.setIfInBounds k v) ⟨.type "list",none,.seq vs.toArray m,#[]⟩=⟨.type "list",none,.seq (vs.set k v).toArray m,#[]⟩:=by
  simp[Obj.mapSeq]
 have Qy:(s.heap.update l (Obj.mapSeq (·.setIfInBounds k v))).get? l=some ⟨.type "list",none,.seq (vs.set k v).toArray m,#[]⟩:=by
  rw[Heap.get?_update_self _ ho (by rw[e];rfl),e]
 refine B6 (wpAny_setSeqItemAt ho rfl ?_)
 first
  |exact B6 (D4 (D4 ⟨.none,rfl,D4 (hQ _ _ Qy (cW ..))⟩))
  |exact D4 ⟨.none,rfl,D4 (hQ _ _ Qy (cW ..))⟩
theorem VW(rm:Rm n A){a:Addr}{es:List (PK×PV)}{ep:Nat}{k:PK}{x:PV}{vi vx:Value}{Q:PH->Prop}(S:SR W σ s.heap)(e:σ a=some (.dict es ep))(kr:OO W s.heap k vi)(hk:U3 k es=true)(hz:es.length<2^24)(rx:VR s.heap x vx)
  (q:∀TU,Q (σ.set a (.dict (putK k x es) TU))):wpAny W.M A (setItem (.ref a) vi vx) (λ _=>CM W σ s Q) (λ _ _=>False) s:=by
 refine A0 (S.dict e) λ ob hZ=>?_;delta hZ g r
 cases kr with
 |int i t=>
  refine ee2.e (r.Pb hk) λ ds kvs hZ=>?_;obtain rfl:=hZ.1;delta hZ hZ kv b c d
  refine wpAny_setItem_pairs (EV i t) (lI g b c d) (λ h' hd sb=>?_) (by rw[K0,kv.length];exact M8 hz)
  refine A0 hd ?_;try clear hd;intro hZ;obtain⟨oc,od,dt,sl⟩:=hZ;intro hZ;intros hZ j3 Q0;intros Q0 TU P4;generalize P4.1=g';generalize P4.2=rZ;generalize rZ.1=nR;clear P4;obtain rfl:=nR.1;generalize nR.2=uB;obtain rfl:=uB.1;obtain rfl:=uB.2;try clear uB;try clear nR;generalize rZ.2=nR;obtain rfl:=nR.1;generalize nR.2=uB;generalize uB.1=b';generalize uB.2=Re;delta Re c' d';try clear uB;try clear nR;try clear rZ;try clear P4
  have hZ:=S.upd e sb g' (.dict (.i (kv.put (λ _ _ h=>by injection h) d i rx) b' c' d'));delta hZ S' st
  exact⟨_,q TU,S',st,⟨h',_,rfl⟩⟩
 |str i t=>
  refine ee2.e (r.toS hk) λ ds kvs hZ=>?_;obtain rfl:=hZ.1;delta hZ hZ kv b c d
  refine wpAny_setItem_pairs (PI i t) (uD g b c d) (λ h' hd sb=>?_) (by rw[K0,kv.length];exact M8 hz)
  refine A0 hd ?_;try clear hd;intro hZ;obtain⟨oc,od,dt,sl⟩:=hZ;intro hZ;intros hZ j3 Q0;intros Q0 TU P4;generalize P4.1=g';generalize P4.2=rZ;generalize rZ.1=nR;clear P4;obtain rfl:=nR.1;generalize nR.2=uB;obtain rfl:=uB.1;obtain rfl:=uB.2;try clear uB;try clear nR;generalize rZ.2=nR;obtain rfl:=nR.1;generalize nR.2=uB;generalize uB.1=b';generalize uB.2=Re;delta Re c' d';try clear uB;try clear nR;try clear rZ;try clear P4
  have hZ:=S.upd e sb g' (.dict (.s (kv.put (λ _ _ h=>by injection h) d i rx) b' c' d'));delta hZ S' st
  exact⟨_,q TU,S',st,⟨h',_,rfl⟩⟩
 |bM tk tz=>
  refine ee2.e (r.toT hk) λ ds xs hZ=>?_;clear hk r;obtain rfl:=hZ.1;delta hZ hZ kt c d
  refine wpAny_setItem_heap (knd:=W.tk) (iS (by have:=rm.cLine;lia)) tk (pC g kt c d) (λ h' hd sb=>?_) (by rw[K0,kt.length];exact M8 hz)
  refine A0 hd ?_;try clear hd;intro hZ;clear c g hz rm;obtain⟨oc,od,dt,sl⟩:=hZ;intro hZ;intros hZ j3 Q0;intros Q0 TU P4;generalize P4.1=g';generalize P4.2=rZ;generalize rZ.1=nR;clear P4;obtain rfl:=nR.1;generalize nR.2=uB;obtain rfl:=uB.1;obtain rfl:=uB.2;try clear uB;try clear nR;generalize rZ.2=nR;clear rZ;obtain rfl:=nR.1;generalize nR.2=uB;generalize uB.1=c';generalize uB.2=Re;delta Re k' d';try clear uB;try clear nR;try clear rZ;try clear P4
  have hZ:=S.upd e sb g' (.dict (.t (kt.put d ⟨tk,tz⟩ rx) c' d'));delta hZ S' st
  exact⟨_,q TU,S',st,⟨h',_,rfl⟩⟩
theorem MA(rm:Rm n A){o i x:PV}{vo vi vx:Value}{Q:PH->Prop}(S:SR W σ s.heap)(ro:VR s.heap o vo)(ri:VR s.heap i vi)(rx:VR s.heap x vx)(h:kM σ i x Q o):
  wpAny W.M A (setItem vo vi vx) (λ _=>CM W σ s Q) (λ _ _=>False) s:=
 dA (P:=λ o=>VR s.heap o vo->wpAny W.M A (setItem vo vi vx) (λ _=>CM W σ s Q) (λ _ _=>False) s) o (eq_true h) (λ e=>(bF e).elim) (λ a h ro=>ro.tF (P:=λ vo=>wpAny W.M A (setItem vo vi vx) (λ _=>CM W σ s Q) (λ _ _=>False) s)<|
  lD (P:=λ o=>σ a=o->wpAny W.M A (setItem (.ref a) vi vx) (λ _=>CM W σ s Q) (λ _ _=>False) s) (σ a) h (λ h e=>dB (P:=λ o=>σ a=o->wpAny W.M A (setItem (.ref a) vi vx) (λ _=>CM W σ s Q) (λ _ _=>False) s) (σ a) h (λ e _=>(bF e).elim) (λ xs h e=>by
    refine A0 (bF h) λ k hZ=>?_;clear h;obtain rfl:=hZ.1;delta hZ hZ hk q
    refine ri.mD (P:=λ vi=>wpAny W.M A (setItem (.ref a) vi vx) (λ _=>CM W σ s Q) (λ _ _=>False) s) λ t=>?_
    refine ee2.e (S.list e) λ vs m hZ=>?_;delta hZ g r z
    have l:=r.length
    refine GD g (G6 k) (by lia) (fitsIndex_of (by lia) (by lia)) λ h' m' g' sb=>?_
    have hZ:=S.upd e sb g' (.list (r.set k rx) (by rw[O9];exact z));delta hZ S' st
    exact⟨_,q,S',st,⟨h',s.toks,rfl⟩⟩) e)
   (λ es ep h e=>let⟨k,e1,hk,hz,q⟩:=bF h;VW rm S e (yU ri e1) hk hz rx q) rfl) ro
end
end
section
variable{W:Wd}{n:Nat}{ns:List (Option Str)}{env:Env}
def F3:Value->Shared->Prop:=λ _ _=>False
theorem K4.eM{σ B4:PH}{s I2:Shared}{Q:PV->PH->Prop}(x:kB σ s.heap B4 I2.heap)(e:Sm s I2){α:Sem Value}{A:Around}(p:wpAny W.M A α (K4 W B4 I2 Q) (λ _ _=>False) I2):wpAny W.M A α (K4 W σ s Q) (λ _ _=>False) I2:=
 I7 p (λ _ _ q=>K4.step x e q) λ _ _ z=>z
theorem bT.eM{σ B4:PH}{s I2:Shared}{Q:Bool->PH->Prop}(x:kB σ s.heap B4 I2.heap)(e:Sm s I2){α:Sem Bool}{A:Around}(p:wpAny W.M A α (bT W B4 I2 Q) (λ _ _=>False) I2):wpAny W.M A α (bT W σ s Q) (λ _ _=>False) I2:=
 I7 p (λ _ _ ⟨B9,q,S,y,z⟩=>⟨B9,q,S,x.trans y,e.trans z⟩) λ _ _ z=>z
theorem Rv{l r:Expr}{f g:T PV}{B:PV->PV->PH->(PV->PH->Prop)->Prop}{k:Value->Value->Sem Value}(hl:Ev W n ns env l f)(hr:Ev W n ns env r g)
  (hk:∀A s σ x y v u Q,Rm n A->SR W σ s.heap->VR s.heap x v->VR s.heap y u->B x y σ Q->wpAny W.M A (k v u) (K4 W σ s Q) (λ _ _=>False) s)
  {A:Around}{s:Shared}{ρ:List PV}{σ:PH}{Q:PV->PH->Prop}(rm:Rm n A)(S:SR W σ s.heap)(F:FR W ns ρ env σ s.heap)(h:f ρ σ λ x B4=>g ρ B4 λ y H6=>B x y H6 Q):
  wpAny W.M A (eval l env) (λ a I2=>wpAny W.M A (eval r env) (λ b fC=>wpAny W.M A (k a b) (K4 W σ s Q) (λ _ _=>False) fC) (λ _ _=>False) I2) (λ _ _=>False) s:=
 Ev.bind hl rm S F h λ v I2 x B4 q Y0 N5 U4 W6 Y6=>
  Ev.bind (A:=A) hr rm N5 U4 q λ u fC y H6 kZ sZ aQ pL cC iY=>K4.eM (W6.trans cC) (Y6.trans iY) (hk A fC H6 x y v u Q rm aQ (Y0.V7 (cC.V7 N5)) sZ kZ)
theorem Me(hW:W.Ok){l r:Expr}{op:Operator}{pos:Pos}{f g:T PV}(hl:Ev W n ns env l f)(hr:Ev W n ns env r g):
  Ev W n ns env (.BinOp l op r pos) (λ ρ σ Q=>f ρ σ λ x B4=>g ρ B4 λ y H6=>mM op H6 Q x y):=λ A s ρ σ Q rm S F h=>
 wpAny_BinOp (Rv (B:=λ x y σ Q=>mM op σ Q x y) hl hr (λ A s σ x y v u Q rm S rx ry h=>OD hW rm S rx ry h) rm S F h)
theorem Md(hW:W.Ok){l r:Expr}{op:CmpOp}{pos:Pos}{f g:T PV}(hl:Ev W n ns env l f)(hr:Ev W n ns env r g)(hm:behindInMarks op r=false):
  Ev W n ns env (.Compare l [op] [r] pos) (λ ρ σ Q=>f ρ σ λ x B4=>g ρ B4 λ y H6=>∃c,iP H6 op x y=some c∧Q (.bool c) H6):=λ A s ρ σ Q rm S F h=>
 wpAny_Compare1 (Rv (B:=λ x y σ Q=>∃c,iP σ op x y=some c∧Q (.bool c) σ) hl hr (λ A s σ x y v u Q rm S rx ry ⟨c,h,q⟩=>vY hW rm S rx ry h q) rm S F h) hm
theorem En(hW:W.Ok){l r:Expr}{op:CmpOp}{pos:Pos}{f g:T PV}(hl:Ev W n ns env l f)(hr:Ev W n ns env r g)(hm:behindInMarks op r=false):
  FP W n ns env (.Compare l [op] [r] pos) (vN λ ρ σ Q=>f ρ σ λ x B4=>g ρ B4 λ y H6=>∃c,iP H6 op x y=some c∧Q (.bool c) H6).t:=λ A s ρ σ Q rm S F h=>by
 refine wpAny_isTrue_Compare1 (Ev.bind hl rm S F h λ v I2 x B4 q Y0 N5 U4 W6 Y6=>Ev.bind (A:=A) hr rm N5 U4 q λ u fC y H6 q6 sZ aQ pL cC iY=>?_) hm
 intros q6 c hZ;generalize hZ.1=hc;refine A0 hZ.2 λ b P4=>?_;delta P4 hb kZ;try clear hZ
 cases hb
 refine I7 (vY (Q:=λ v σ=>v=.bool c∧Q c σ) hW rm aQ (Y0.V7 (cC.V7 N5)) sZ hc ⟨rfl,kZ⟩) (λ v aU p=>?_) λ _ _ z=>z
 intros p pv R9 hZ;generalize hZ.1=P4;obtain rfl:=P4.1;delta P4 P4 MF;delta hZ hZ SQ eJ gR yG
 cases SQ
 exact kF ⟨R9,MF,eJ,(W6.trans cC).trans gR,(Y6.trans iY).trans yG⟩
theorem Mf{e:Expr}{f:T PV}(he:Ev W n ns env e f)(hw:∀whole,isTrue e env whole=(do let v <-whole;standAt e.pos;holding [v] (truthy v))):FP W n ns env e (vN f).t:=λ A s ρ σ Q rm S F h=>by
 rw[hw]
 refine B6 (Ev.bind he rm S F h λ v I2 x B4 q5 Y0 N5 U4 W6 Y6=>?_)
 intros q5 b hZ;delta hZ hb q
 exact bT.eM W6 Y6 (B6 (T9 (K2 (FV N5 Y0 hb q))))
theorem Lz{x:Expr}{pos:Pos}{f:T PV}(hx:Ev W n ns env x f):
  Ev W n ns env (.UnaryOp .USub x pos) (λ ρ σ Q=>f ρ σ λ x B4=>match x with|.int i=>Q (.int (-i)) B4|_=>False):=λ A s ρ σ Q rm S F h=>by
 show wpAny _ _ (do let v <-eval x env;standAt pos;holding [v] (unaryOp .USub v)) _ _ _
 refine B6 (Ev.bind hx rm S F h λ v I2 x B4 q Y0 N5 U4 W6 Y6=>K4.eM W6 Y6 (B6 (T9 (K2 ?_))))
 cases x<;>first|exact q.elim|exact Ke N5 Y0 rfl q
theorem Ly{x:Expr}{pos:Pos}{f:T PV}(hx:Ev W n ns env x f):
  Ev W n ns env (.UnaryOp .Not x pos) (λ ρ σ Q=>f ρ σ λ x B4=>∃b,zI B4 x=some b∧Q (.bool !b) B4):=λ A s ρ σ Q rm S F h=>by
 show wpAny _ _ (do let v <-eval x env;standAt pos;holding [v] (unaryOp .Not v)) _ _ _
 refine B6 (Ev.bind hx rm S F h λ v I2 x B4 ⟨b,hb,q⟩ Y0 N5 U4 W6 Y6=>K4.eM W6 Y6 (B6 (T9 (K2 ?_))))
 show wpAny _ _ (holding [v] (do return Value.bool (!(<-truthy v)))) _ _ _
 refine K2 (B6 (I7 (FV (Q:=λ c σ=>c=b∧Q (.bool !b) σ) N5 Y0 hb ⟨rfl,q⟩) (λ c fC p=>?_) λ _ _ z=>z))
 intros p H6 hZ;generalize hZ.1=P4;clear hb q;obtain rfl:=P4.1;delta P4 P4 q;delta hZ hZ aQ cC iY
 exact D4 ⟨_,H6,q,.bool _,aQ,cC,iY⟩
theorem El{x:Expr}{pos:Pos}{f:T Bool}(hx:FP W n ns env x f):FP W n ns env (.UnaryOp .Not x pos) (λ ρ σ Q=>f ρ σ λ b B4=>Q (!b) B4):=λ A s ρ σ Q rm S F h=>by
 show wpAny _ _ (do return !(<-isTrue x env (eval x env))) _ _ _
 exact B6 (I7 (hx A s ρ σ _ rm S F h) (λ c fC ⟨H6,q,r1,r2,r3⟩=>D4 ⟨H6,q,r1,r2,r3⟩) λ _ _ z=>z)
theorem pB{e:Expr}{f:T Bool}{OK:Bool->PH->Prop}{R:Bool->Shared->Prop}{A:Around}{s:Shared}{ρ:List PV}{σ:PH}(he:FP W n ns env e f)(rm:Rm n A)(S:SR W σ s.heap)(F:FR W ns ρ env σ s.heap)(h:f ρ σ OK)
  (hk:∀b I2 B4,OK b B4->SR W B4 I2.heap->FR W ns ρ env B4 I2.heap->kB σ s.heap B4 I2.heap->Sm s I2->R b I2):
  wpAny W.M A (isTrue e env (eval e env)) R (λ _ _=>False) s:=
 I7 (he A s ρ σ OK rm S F h) (λ v I2 ⟨B4,q,N5,x,e⟩=>hk v I2 B4 q N5 (F.eM S x) x e) λ _ _ x=>x
theorem Mb{c a b:Expr}{pos:Pos}{fc:T Bool}{fa fb:T PV}(hc:FP W n ns env c fc)(ha:Ev W n ns env a fa)(hb:Ev W n ns env b fb):
  Ev W n ns env (.IfExp c a b pos) (λ ρ σ Q=>fc ρ σ λ t B4=>match t with|true=>fa ρ B4 Q|false=>fb ρ B4 Q):=λ A s ρ σ Q rm S F h=>by
 show wpAny _ _ (do if <-isTrue c env (eval c env)then eval a env else eval b env) _ _ _
 refine B6 (pB hc rm S F h λ t I2 B4 q N5 U4 W6 Y6=>K4.eM W6 Y6 ?_)
 cases t with
 |true=>exact ha A I2 ρ B4 Q rm N5 U4 q
 |false=>exact hb A I2 ρ B4 Q rm N5 U4 q
theorem Em{c a b:Expr}{pos:Pos}{fc fa fb:T Bool}(hc:FP W n ns env c fc)(ha:FP W n ns env a fa)(hb:FP W n ns env b fb):
  FP W n ns env (.IfExp c a b pos) (λ ρ σ Q=>fc ρ σ λ t B4=>match t with|true=>fa ρ B4 Q|false=>fb ρ B4 Q):=λ A s ρ σ Q rm S F h=>by
 show wpAny _ _ (do if <-isTrue c env (eval c env)then isTrue a env (eval a env)else isTrue b env (eval b env)) _ _ _
 refine B6 (pB hc rm S F h λ t I2 B4 q N5 U4 W6 Y6=>bT.eM W6 Y6 ?_)
 cases t with
 |true=>exact ha A I2 ρ B4 Q rm N5 U4 q
 |false=>exact hb A I2 ρ B4 Q rm N5 U4 q
theorem xH{pos:Pos}{op:BoolOp}{x y:Sem Value}{r:List (Sem Value)}:boolOp pos op (x::y::r)=(do
  let v <-x
  standAt pos
  let t <-holding [v] (truthy v)
  match op,t with
  |.And,false|.Or,true=>pure v
  |_,_=>boolOp pos op (y::r)):=rfl
theorem YO{x y:Expr}{r:List Expr}{pos:Pos}{f g:T PV}(hx:Ev W n ns env x f)
  (hy:∀A s ρ σ Q,Rm n A->SR W σ s.heap->FR W ns ρ env σ s.heap->g ρ σ Q->wpAny W.M A (boolOp pos .And (evalEach (y::r) env)) (K4 W σ s Q) (λ _ _=>False) s):
  Ev W n ns env (.BoolOp .And (x::y::r) pos) (λ ρ σ Q=>f ρ σ λ x B4=>∃t,zI B4 x=some t∧match t with|true=>g ρ B4 Q|false=>Q x B4):=λ A s ρ σ Q rm S F h=>by
 show wpAny _ _ (boolOp pos .And (eval x env::eval y env::evalEach r env)) _ _ _
 rw[xH]
 refine B6 (Ev.bind hx rm S F h λ v I2 z B4 ⟨t,ht,q⟩ Y0 N5 U4 W6 Y6=>K4.eM W6 Y6 (B6 (T9 (B6 (K2 ?_)))))
 refine I7 (FV (Q:=λ c B9=>c=t∧B9=B4) N5 Y0 ht ⟨rfl,rfl⟩) (λ c fC p=>?_) λ _ _ z=>z
 intros p H6 hZ;generalize hZ.1=P4;clear F S h ht hx x;obtain rfl:=P4.1;obtain rfl:=P4.2;try clear P4;delta hZ hZ aQ cC iY
 cases c with
 |true=>exact K4.eM cC iY (hy A fC ρ H6 Q rm aQ (U4.eM N5 cC) q)
 |false=>exact D4 ⟨z,H6,q,Y0.V7 (cC.V7 N5),aQ,cC,iY⟩
theorem Ig{x y:Expr}{r:List Expr}{pos:Pos}{f g:T PV}(hx:Ev W n ns env x f)
  (hy:∀A s ρ σ Q,Rm n A->SR W σ s.heap->FR W ns ρ env σ s.heap->g ρ σ Q->wpAny W.M A (boolOp pos .Or (evalEach (y::r) env)) (K4 W σ s Q) (λ _ _=>False) s):
  Ev W n ns env (.BoolOp .Or (x::y::r) pos) (λ ρ σ Q=>f ρ σ λ x B4=>∃t,zI B4 x=some t∧match t with|false=>g ρ B4 Q|true=>Q x B4):=λ A s ρ σ Q rm S F h=>by
 show wpAny _ _ (boolOp pos .Or (eval x env::eval y env::evalEach r env)) _ _ _
 rw[xH]
 refine B6 (Ev.bind hx rm S F h λ v I2 z B4 ⟨t,ht,q⟩ Y0 N5 U4 W6 Y6=>K4.eM W6 Y6 (B6 (T9 (B6 (K2 ?_)))))
 refine I7 (FV (Q:=λ c B9=>c=t∧B9=B4) N5 Y0 ht ⟨rfl,rfl⟩) (λ c fC p=>?_) λ _ _ z=>z
 intros p H6 hZ;generalize hZ.1=P4;clear ht;obtain rfl:=P4.1;obtain rfl:=P4.2;try clear P4;delta hZ hZ aQ cC iY
 cases c with
 |false=>exact K4.eM cC iY (hy A fC ρ H6 Q rm aQ (U4.eM N5 cC) q)
 |true=>exact D4 ⟨z,H6,q,Y0.V7 (cC.V7 N5),aQ,cC,iY⟩
theorem mO{op:BoolOp}{x:Expr}{r:List Expr}:allTrue op (x::r) env=(do
  match op,<-isTrue x env (eval x env)with
  |.And,false=>pure false
  |.Or,true=>pure true
  |_,_=>allTrue op r env):=rfl
theorem xJ{op:BoolOp}{x:Expr}{f:T Bool}(hx:FP W n ns env x f){A:Around}{s:Shared}{ρ:List PV}{σ:PH}{Q:Bool->PH->Prop}(rm:Rm n A)(S:SR W σ s.heap)(F:FR W ns ρ env σ s.heap)(h:f ρ σ Q):
  wpAny W.M A (allTrue op [x] env) (bT W σ s Q) (λ _ _=>False) s:=by
 rw[mO]
 refine B6 (pB hx rm S F h λ t I2 B4 q N5 U4 W6 Y6=>?_)
 cases op<;>cases t<;>exact D4 ⟨B4,q,N5,W6,Y6⟩
theorem RD{x:Expr}{r:List Expr}{pos:Pos}{f g:T Bool}(hx:FP W n ns env x f)
  (hy:∀A s ρ σ Q,Rm n A->SR W σ s.heap->FR W ns ρ env σ s.heap->g ρ σ Q->wpAny W.M A (allTrue .And r env) (bT W σ s Q) (λ _ _=>False) s):
  FP W n ns env (.BoolOp .And (x::r) pos) (λ ρ σ Q=>f ρ σ λ t B4=>match t with|true=>g ρ B4 Q|false=>Q false B4):=λ A s ρ σ Q rm S F h=>by
 show wpAny _ _ (allTrue .And (x::r) env) _ _ _
 rw[mO]
 refine B6 (pB hx rm S F h λ t I2 B4 q N5 U4 W6 Y6=>?_)
 cases t with
 |true=>exact bT.eM W6 Y6 (hy A I2 ρ B4 Q rm N5 U4 q)
 |false=>exact D4 ⟨B4,q,N5,W6,Y6⟩
theorem YR{x:Expr}{r:List Expr}{pos:Pos}{f g:T Bool}(hx:FP W n ns env x f)
  (hy:∀A s ρ σ Q,Rm n A->SR W σ s.heap->FR W ns ρ env σ s.heap->g ρ σ Q->wpAny W.M A (allTrue .Or r env) (bT W σ s Q) (λ _ _=>False) s):
  FP W n ns env (.BoolOp .Or (x::r) pos) (λ ρ σ Q=>f ρ σ λ t B4=>match t with|false=>g ρ B4 Q|true=>Q true B4):=λ A s ρ σ Q rm S F h=>by
 show wpAny _ _ (allTrue .Or (x::r) env) _ _ _
 rw[mO]
 refine B6 (pB hx rm S F h λ t I2 B4 q N5 U4 W6 Y6=>?_)
 cases t with
 |false=>exact bT.eM W6 Y6 (hy A I2 ρ B4 Q rm N5 U4 q)
 |true=>exact D4 ⟨B4,q,N5,W6,Y6⟩
end
structure Nh(K:Frag)(C:Addr)(name:Str)(f:Addr):Prop where
 ga:findIn K (.ref C) "__getattribute__"=some (some (.builtin "object.__getattribute__"))
 gt:findIn K (.ref C) "__getattr__"=some none
 find:findIn K (.ref C) name=some (some (.ref f))
 fn:typeIn K (.ref f)=some (.type "function")
 keep:keepIn K (.ref f)=true
structure Wd.jK(W:Wd)(tb:fL):Prop where
 fld:∀C f,tb.fld C f=true->xL W.K C (Str.ofString f)
 H2:∀C f a,tb.H2 C f=some a->Nh W.K C (Str.ofString f) a
inductive mP(W:Wd):Value->Prop
 |builtin (i:String):mP W (.builtin i)
 |type (i:String):mP W (.type i)
 |ref {a:Addr}:keepIn W.K (.ref a)=true->mP W (.ref a)
def pK(W:Wd)(x:Str)(v:Value):Prop:=W.mg x=some v∨(W.mg x=none∧bootBuiltins x=some v∧x≠"__name__")
def NS(o:Expr):Prop:=∀(attr:Str) (env:Env) (whole:Sem Value),attributeBase o attr env whole=whole
section
variable{W:Wd}{n:Nat}{ns:List (Option Str)}{env:Env}{tb:fL}
theorem Ek(hW:W.Ok){o:Expr}{a:Str}{f:String}{pos:Pos}{g:T PV}(ha:a=Str.ofString f)(hn:NS o)(ho:Ev W n ns env o g):
  Ev W n ns env (.Attribute o a pos) (λ ρ σ Q=>g ρ σ λ ov B4=>∃x,fld B4 ov f=some x∧Q x B4):=λ A s ρ σ Q rm S F h=>by
 subst ha
 show wpAny _ _ (do
   let o' <-attributeBase o (Str.ofString f) env (eval o env)
   standAt pos.atName
   let r <-holding [o'] (getAttr o' (Str.ofString f) true)
   letTemporaryGo o o' r
   pure r) _ _ _
 rw[hn]
 refine B6 (Ev.bind ho rm S F h λ v I2 x B4 ⟨y,hy,q⟩ Y0 N5 U4 W6 Y6=>B6 (T9 (B6 (K2 ?_))))
 refine I7 (NL hW N5 Y0 hy q) (λ r fC p=>?_) λ _ _ z=>z
 exact B6 (wpAny_letTemporaryGo (D4 (K4.step W6 Y6 p)))
theorem FX{value slice:Expr}{o i:Value}{T id:String}{A:Around}{s:Shared}{Q:Value->Shared->Prop}{E:Value->Shared->Prop}(hT:s.TypeIs o T)
  (hl:typeLookup (.type T) "__getitem__"=pure (some (.builtin id)))(h:wpAny W.M A (getItem o i) Q E s):wpAny W.M A (subscriptTail value slice o i) Q E s:=by
 unfold subscriptTail
 refine B6 ?_
 rw[getitemInPython_of_ne hT.not_modules]
 refine B6 (wpAny_specialOf hT hl ?_)
 have hs:∃l,subscripted slice false o i=operate l (getItem o i):=by
  clear h hl hT;cases slice<;>first|exact⟨_,rfl⟩|(cases step<;>exact⟨_,rfl⟩)
 intros hs l hs
 have fin:wpAny W.M A (subscripted slice false o i) (λ r aU=>wpAny W.M A (letTemporaryGo value o r>>=λ _=>pure r) Q E aU) E s:=by
  rw[hs]
  exact wpAny_operating (I7 h (λ r aU uA=>B6 (wpAny_letTemporaryGo (D4 uA))) λ _ _ x=>x)
 first
  |exact D4 (B6 fin)
  |exact B6 (D4 (B6 fin))
  |exact B6 fin
theorem SM{σ:PH}{s:Shared}{x y z:PV}{v:Value}(S:SR W σ s.heap)(rx:VR s.heap x v)(h:gD σ x y=some z):
  ∃T id,s.TypeIs v T∧typeLookup (.type T) "__getitem__"=pure (some (.builtin id)):=
 PF (C:=λ x _=>VR s.heap x v->∃T id,s.TypeIs v T∧typeLookup (.type T) "__getitem__"=pure (some (.builtin id))) h
  (λ a xs i e _ rx=>rx.tF (P:=λ v=>∃T id,s.TypeIs v T∧typeLookup (.type T) "__getitem__"=pure (some (.builtin id))) (let⟨vs,k,e1,_,_⟩:=S.list e;⟨"list",_,⟨_,e1,rfl⟩,slot_list_getitem.lookup⟩))
  (λ a es ep k e _ _ rx=>rx.tF (P:=λ v=>∃T id,s.TypeIs v T∧typeLookup (.type T) "__getitem__"=pure (some (.builtin id))) (let⟨ob,e1,r⟩:=S.dict e;⟨"dict",_,⟨_,e1,by clear e1;cases r<;>rfl⟩,slot_dict_getitem.lookup⟩))
  (λ xs i _ rx=>rx.xM (P:=λ v=>∃T id,s.TypeIs v T∧typeLookup (.type T) "__getitem__"=pure (some (.builtin id))) λ a vs t _ _=>⟨"tuple",_,t.typeIs,slot_tuple_getitem.lookup⟩) rx
theorem Lv{o i:Expr}{pos:Pos}{f g:T PV}(ho:Ev W n ns env o f)(hi:Ev W n ns env i g):
  Ev W n ns env (.Subscript o i pos) (λ ρ σ Q=>f ρ σ λ ov B4=>g ρ B4 λ iv H6=>∃x,gD H6 ov iv=some x∧Q x H6):=λ A s ρ σ Q rm S F h=>
 Subscript_ (Rv (B:=λ x y σ Q=>∃z,gD σ x y=some z∧Q z σ) ho hi (λ A s σ x y v u Q rm S rx ry p9=>by
  intros p9 z hZ;delta hZ hz q
  refine ee2.e (SM S rx hz) λ T id hZ=>?_;delta hZ hT hl
  exact FX hT hl (NK rm S rx ry hz q)) rm S F h)
theorem pV{h:Heap}{x:PV}{v:Value}{l:Option Int}(r:VR h x v)(e:Fy x=some l):IsPart v l:=by
 cases r with
 |none=>cases e;exact .none
 |int i t=>cases e;exact .int i t
 |_=>cases e
def Og(W:Wd)(n:Nat)(ns:List (Option Str))(env:Env)(e:Option Expr)(f:T PV):Prop:=
 ∀A s ρ σ Q,Rm n A->SR W σ s.heap->FR W ns ρ env σ s.heap->f ρ σ Q->wpAny W.M A (valueOrNone (evalOpt e env)) (K4 W σ s Q) (λ _ _=>False) s
theorem YU:Og W n ns env none (λ _ σ Q=>Q .none σ):=λ A s ρ σ Q _ S _ q=>D4 (K4.now S .none q ⟨_,rfl⟩)
theorem YT{e:Expr}{f:T PV}(h:Ev W n ns env e f):Og W n ns env (some e) f:=h
theorem tN{v:Value}{l:Option Int}(p:IsPart v l):∃q:Option (Int×Tok),v=partValue q∧q.map (·.1)=l:=by
 cases p with
 |none=>exact⟨none,rfl,rfl⟩
 |int i t=>exact⟨some (i,t),rfl,rfl⟩
theorem SR.Qh{σ:PH}{h:Heap}(hW:W.Ok)(S:SR W σ h){a:Addr}{xs:List PV}(e:σ a=some (.list xs)∨a=W.xN∧xs=W.PJ.map .int):∃vs:List Value,h.IsList a vs.toArray∧bO h xs vs∧xs.length<=2^25:=by
 rcases e with e|⟨rfl,rfl⟩
 ·refine ee2.e (S.list e) λ vs k hZ=>?_;delta hZ e1 r z
  exact⟨vs,Q3 e1,r,z⟩
 ·refine A0 (hW.bx) λ vs hZ=>?_;delta hZ e1 r z
  intros e1 o hZ;delta hZ ho Lf
  exact⟨vs,⟨o,S.keep _ _ ho,Lf⟩,r.V7 (.keeps S.keep),by rw[A8];lia⟩
theorem Lx(hW:W.Ok){o:Expr}{l u:Option Expr}{Vm pos:Pos}{f g h':T PV}(ho:Ev W n ns env o f)(hl:Og W n ns env l g)(hu:Og W n ns env u h'):
  Ev W n ns env (.Subscript o (.Slice l u none Vm) pos) (λ ρ σ Q=>f ρ σ λ ov B4=>g ρ B4 λ lv H6=>h' ρ H6 λ hv R9=>Pi W R9 lv hv Q ov):=λ A s ρ σ Q rm S F h=>by
 refine Subscript_ (Ev.bind ho rm S F h λ vo I2 x B4 xO Y0 N5 U4 W6 Y6=>?_)
 show wpAny _ _ (do
   let l <-valueOrNone (evalOpt l env)
   let u <-holding [l] (valueOrNone (evalOpt u env))
   let s <-holding [l,u] (valueOrNone (evalOpt none env))
   newFields "slice" [l,u,s]) _ _ _
 refine B6 (I7 (hl A I2 ρ B4 _ rm N5 U4 xO) (λ vl fC p8=>?_) λ _ _ z=>z)
 intros p8 lv H6 hZ;delta hZ kZ sZ aQ cC iY
 refine B6 (K2 (I7 (hu A fC ρ H6 _ rm aQ (U4.eM N5 cC) kZ) (λ vu aU p7=>?_) λ _ _ z=>z))
 intros p7 hv R9 hZ;delta hZ MF SQ eJ gR yG
 refine B6 (K2 (D4 ?_))
 refine aJ ?_
 have k:=Q6 aU.heap ⟨.type "slice",none,.fields #[vl,vu,.none],#[]⟩
 have CL:=eJ.keeps k
 have uM:kB R9 aU.heap R9 (aU.heap.push ⟨.type "slice",none,.fields #[vl,vu,.none],#[]⟩):=.keeps k
 have st:kB σ s.heap R9 (aU.heap.push ⟨.type "slice",none,.fields #[vl,vu,.none],#[]⟩):=((W6.trans cC).trans gR).trans uM
 have ro:=Y0.V7 (((cC.trans gR).trans uM).V7 N5)
 have rl:=sZ.V7 ((gR.trans uM).V7 aQ)
 have ru:=SQ.V7 (uM.V7 eJ)
 have hs:(aU.heap.push ⟨.type "slice",none,.fields #[vl,vu,.none],#[]⟩).get? aU.heap.objs.size=some ⟨.type "slice",none,.fields #[vl,vu,.none],#[]⟩:=N6 _ rfl
 have sm:Sm s {aU with heap:=aU.heap.push ⟨.type "slice",none,.fields #[vl,vu,.none],#[]⟩}:=((Y6.trans iY).trans yG).trans ⟨_,aU.toks,rfl⟩
 generalize hH:aU.heap.push ⟨.type "slice",none,.fields #[vl,vu,.none],#[]⟩=H at*
 clear U4 S N5 aQ eJ Y6 iY yG h hl ho hu pos xO kZ rm Y0 sZ SQ W6 cC gR uM B4 H6;cases ro with
 |ref a=>
  intros MF xs l' h' hZ;delta hZ e el eh nl nh hz q
  refine A0 (CL.Qh hW e) λ vs hZ=>?_;delta hZ g1 rr
  have ll:=rr.length
  refine FX (s:={aU with heap:=H}) (T:="list") g1.typeIs slot_list_getitem.lookup (K4.eM (I2:={aU with heap:=H}) st sm ?_)
  refine wpAny_getItem_list_slice (s:={aU with heap:=H}) g1 ⟨_,hs,rfl,rfl⟩ (pV rl el) (pV ru eh) .none (by simp) ?_ (by rw[H0,K0];lia)
  rw[GC _ _ _ nl nh]
  refine K4.alloc (s:={aU with heap:=H}) (o:=.list (fD xs l' h')) CL (.list ?_ ?_) q
  ·have:=(rr.take (Qx h' xs.length)).drop (Qg l')
   unfold fD
   rw[ll]
   exact this.V7 (.keeps (Q6 _ _))
  ·unfold fD;rw[U7,Y1];exact A9 (Nat.sub_le ..) (A9 (Nat.min_le_right ..) (A9 hz (C3 rfl)))
 |str y t z=>
  intros MF l' h' hZ;delta hZ el eh q
  refine A0 (tN (pV rl el)) λ pl hZ=>?_;clear el f g hW rl fC;obtain rfl:=hZ.1;obtain rfl:=hZ.2;try clear hZ
  refine A0 (tN (pV ru eh)) λ pu hZ=>?_;clear eh ru;obtain rfl:=hZ.1;obtain rfl:=hZ.2;try clear hZ
  refine FX (s:={aU with heap:=H}) (T:="str") (typeIs_str _ _ _) PySem.F.slot_str_getitem.lookup (K4.eM (I2:={aU with heap:=H}) st sm ?_)
  refine wpAny_getItem_str_slice (s:={aU with heap:=H}) (l:=pl) (u:=pu) (st:=none) ⟨_,hs,rfl,rfl⟩ rfl ?_
  exact post_val_or_str ⟨A9 (Txt.slice_le y _ _) z,λ t' k=>K4.now (s:={aU with heap:=H}) CL (.str _ _ (A9 (Txt.slice_le y _ _) z)) q ⟨k,rfl⟩⟩
 |_=>exact MF.elim
end
def rG:Expr->Bool
 |.Starred .. =>false
 |_=>true
theorem qJ{e:Expr}{r:List Expr}{env:Env}(h:rG e=true):starEach (e::r) env=(false,eval e env)::starEach r env:=by
 cases e<;>first|rfl|cases h
section
variable{W:Wd}{n:Nat}{ns:List (Option Str)}{env:Env}{tb:fL}
def UU(W:Wd)(n:Nat)(ns:List (Option Str))(env:Env)(es:List Expr)(f:T (List PV)):Prop:=
 (starEach es env).all (λ x=>!x.1)=true∧∀A s ρ σ Q pos,Rm n A->SR W σ s.heap->FR W ns ρ env σ s.heap->f ρ σ Q->
  wpAny W.M A (spliced (backTo pos (starEach es env))) (λ vs s'=>∃xs B9,Q xs B9∧xs.length=es.length∧bO s'.heap xs vs∧SR W B9 s'.heap∧kB σ s.heap B9 s'.heap∧Sm s s') (λ _ _=>False) s
theorem RE:UU W n ns env [] (λ _ σ Q=>Q [] σ):=⟨rfl,λ A s ρ σ Q pos _ S _ q=>spliced_nil ⟨[],σ,q,rfl,.nil,S,.refl _ _,.refl _⟩⟩
theorem KI{pos:Pos}{t:Sem Value}{r:List (Bool×Sem Value)}:backTo pos ((false,t)::r)=(false,t)::backTo pos r:=rfl
theorem JY{e:Expr}{r:List Expr}{f:T PV}{g:T (List PV)}(hp:rG e=true)(he:Ev W n ns env e f)(hr:UU W n ns env r g):
  UU W n ns env (e::r) (λ ρ σ Q=>f ρ σ λ x B4=>g ρ B4 λ xs H6=>Q (x::xs) H6):=by
 refine⟨by rw[qJ hp,dE,hr.1];rfl,λ A s ρ σ Q pos rm S F h=>?_⟩
 rw[qJ hp,KI]
 refine spliced_cons (Ev.bind he rm S F h λ v I2 x B4 xO Y0 N5 U4 W6 Y6=>?_)
 refine I7 (hr.2 A I2 ρ B4 _ pos rm N5 U4 xO) (λ vs fC p6=>?_) λ _ _ z=>z
 intros p6 xs H6 hZ;delta hZ kZ l₂ sZ aQ cC iY
 exact⟨x::xs,H6,kZ,by simp[l₂],.cons (Y0.V7 (cC.V7 N5)) sZ,aQ,W6.trans cC,Y6.trans iY⟩
theorem Lu{es:List Expr}{k:Nat}{pos:Pos}{f:T (List PV)}(h:UU W n ns env es f)(hz:es.length<=1000):
  Ev W n ns env (.Tuple es k pos) (λ ρ σ Q=>f ρ σ λ xs B4=>Q (.tup xs) B4):=λ A s ρ σ Q rm S F q=>
 Tuple_ (I7 (h.2 A s ρ σ _ pos rm S F q) (λ vs I2 p5=>by
  intros p5 xs B4 hZ;delta hZ xO hl Y0 N5 W6 Y6
  have l:=Y0.length
  refine aJ ?_ (by show vs.toArray.size<=sizeLine;rw[H0,K0];lia)
  have k:=Q6 I2.heap ⟨.type "tuple",none,.seq vs.toArray 0,#[]⟩
  exact⟨.tup xs,B4,xO,.tup ⟨_,N6 _ rfl,rfl,0,rfl⟩ (Y0.V7 (.keeps k)) (by lia),N5.keeps k,W6.trans (.keeps k),Y6.trans ⟨_,I2.toks,rfl⟩⟩) λ _ _ z=>z)
theorem Eg{es:List Expr}{pos:Pos}{f:T (List PV)}(h:UU W n ns env es f)(hz:es.length<=1000):
  Ev W n ns env (.List es pos) (λ ρ σ Q=>f ρ σ λ xs B4=>∀c,B4 c=none->Q (.ref c) (B4.set c (.list xs))):=λ A s ρ σ Q rm S F q=>
 List_ (I7 (h.2 A s ρ σ _ pos rm S F q) (λ vs I2 o9=>by
  intros o9 xs B4 hZ;delta hZ xO hl Y0 N5 W6 Y6
  have l:=Y0.length
  refine aJ ?_ (by show vs.toArray.size<=sizeLine;rw[H0,K0];lia)
  exact K4.step W6 Y6 (K4.alloc (o:=.list xs) (ob:=⟨.type "list",none,.seq vs.toArray 0,#[]⟩) N5 (.list (Y0.V7 (.keeps (Q6 _ _))) (by lia)) xO)) λ _ _ z=>z)
theorem YN{pos:Pos}:Ev W n ns env (.Dict [] [] pos) (λ _ σ Q=>∀c,σ c=none->Q (.ref c) (σ.set c (.dict [] 0))):=λ A s ρ σ Q rm S F q=>by
 show wpAny _ _ (do standAt pos;dictDisplay []) _ _ _
 rw[show(do standAt pos;dictDisplay []:Sem Value)=(do standAt pos;newDict)from rfl]
 refine B6 (T9 ?_)
 unfold newDict
 refine aJ ?_
 exact K4.alloc (o:=.dict [] 0) (ob:=⟨.type "dict",none,.dict #[] 0,#[]⟩) S (.dict (.i .nil (λ e he=>by simp at he) .nil .nil)) q
theorem mH{f:Value}{args:List (Bool×Sem Value)}{A:Around}{s:Shared}{Q:Args->Shared->Prop}{E:Value->Shared->Prop}(ha:args.any (·.1)=false)
  (h:wpAny W.M A (spliced args) (λ vs s'=>Q ⟨vs,[]⟩ s') E s):wpAny W.M A (evalArgs f true args []) Q E s:=by
 cases args with
 |nil=>
  unfold evalArgs
  show wpAny W.M A (spliced []>>=_) Q E s
  refine B6 (I7 h (λ vs s' h'=>?_) λ _ _ x=>x)
  refine B6 (D4 (K2 (B6 (D4 (B6 (D4 (D4 h')))))))
 |cons a r=>
  obtain⟨b,x⟩:=a
  cases b with
  |false=>exact evalArgs_plain h
  |true=>simp at ha
theorem Il{pos:Pos}{f:Value}{first:List Value}{es:List Expr}{g:T (List PV)}{A:Around}{s:Shared}{ρ:List PV}{σ:PH}{Q:PV->PH->Prop}(hW:W.Ok)(hk:mP W f)(hs:UU W n ns env es g)(rm:Rm n A)(S:SR W σ s.heap)(F:FR W ns ρ env σ s.heap)
  {fx:List PV}(rf:bO s.heap fx first)(h:g ρ σ λ xs B4=>J9 W n f (fx++xs) B4 Q):
  wpAny W.M A (callWith pos f first (backTo pos (starEach es env)) []) (K4 W σ s Q) (λ _ _=>False) s:=by
 have hp:(backTo pos (starEach es env)).any (·.1)=false:=by
  unfold backTo
  rw[nO]
  have:=hs.1
  rw[G3]at this
  rw[List.any_eq_false]
  intro x hx
  have:=this x hx
  simpa using this
 refine callWith_of (P:=λ h=>W.K.In h) (by rw[hp];rfl) (λ hh X=>?_) (mH hp ?_)
 ·clear h;cases hk with
  |builtin i=>exact⟨.machine,.inr (.inl rfl),.now⟩
  |type i=>exact⟨.machine,.inr (.inl rfl),.now⟩
  |ref k=>exact keeps_K k hh X
 ·refine I7 (hs.2 A s ρ σ _ pos rm S F h) (λ vs I2 ⟨xs,B4,xO,l₁,Y0,N5,W6,Y6⟩=>⟨hW.IB.keeps N5.keep,?_⟩) λ _ _ z=>z
  exact K4.eM W6 Y6 (xO A I2 _ rm N5 ((rf.V7 (W6.V7 S)).append Y0))
theorem Wd.Ok.glob(hW:W.Ok){x:Str}{v:Value}{pos:Pos}{A:Around}{s:Shared}{σ:PH}{R:Value->Shared->Prop}(hE:U5 env)(hk:env.kindOf x=some .globalImplicit)(hd:(x==("__debug__":Str))=false)
  (S:SR W σ s.heap)(g:pK W x v)(h:R v s):wpAny W.M A (eval (.Name x pos) env) R (λ _ _=>False) s:=by
 refine Name_function_global hE.kind hk ?_ hd
 rcases g with g|⟨g1,g2,g3⟩
 ·exact loadGlobal_global (mg:=W.mg) (by rw[hE.glob];exact hW.g.keeps S.keep) g h
 ·exact loadGlobal_builtin (mg:=W.mg) (mb:=W.mb) (by rw[hE.glob];exact hW.g.keeps S.keep) g1 (by rw[hE.blt];exact hW.b.keeps S.keep) ((hW.bi x g3).trans g2) h
theorem Ru(hW:W.Ok){x:Str}{i:Int}{t:Tok}{pos:Pos}(hE:U5 env)(hk:env.kindOf x=some .globalImplicit)(hd:(x==("__debug__":Str))=false)(g:pK W x (.int i t)):
  Ev W n ns env (.Name x pos) (λ _ σ Q=>Q (.int i) σ):=λ A s ρ σ Q rm S F h=>hW.glob hE hk hd S g (K4.now S (.int i t) h ⟨_,rfl⟩)
theorem Ei(hW:W.Ok){x:Str}{f:Value}{p pos:Pos}{es:List Expr}{g:T (List PV)}(hE:U5 env)(hk:env.kindOf x=some .globalImplicit)(hd:(x==("__debug__":Str))=false)(gl:pK W x f)(kp:mP W f)(hs:UU W n ns env es g):
  Ev W n ns env (.Call (.Name x p) es [] pos) (λ ρ σ Q=>g ρ σ λ xs B4=>J9 W n f xs B4 Q):=λ A s ρ σ Q rm S F h=>by
 show wpAny _ _ (do callWith pos (<-eval (.Name x p) env) [] (backTo pos (starEach es env)) (backToKw pos [])) _ _ _
 refine B6 (hW.glob hE hk hd S gl ?_)
 exact Il hW kp hs rm S F .nil h
theorem dZ{α:Type}{l:List (String×α)}{f:String}{x:α}(h:l.lookup f=some x):(f,x)∈l:=by
 induction l with
 |nil=>cases h
 |cons p r ih=>
  obtain⟨g,y⟩:=p
  rw[I1]at h
  split at h
  ·rename_i e;cases h;rw[eq_of_beq e];exact .head _
  ·exact .tail _ (ih h)
structure BM(T f id:String):Prop where
 slot:Slot T (Str.ofString f) id
 ty:typeOf (.builtin id)=pure (.type "method_descriptor")
theorem Fz{f id:String}(h:QE.lookup f=some id):BM "list" f id:=by
 have:=dZ h
 simp only[QE,F8,Prod.mk.injEq,eP,or_false]at this
 clear h;rcases this with⟨rfl,rfl⟩|⟨rfl,rfl⟩|⟨rfl,rfl⟩|⟨rfl,rfl⟩|⟨rfl,rfl⟩
 ·exact⟨PySem.F.slot_list_append,PySem.F.type_list_append⟩
 ·exact⟨PySem.F.slot_list_extend,PySem.F.type_list_extend⟩
 ·exact⟨PySem.F.slot_list_insert,PySem.F.type_list_insert⟩
 ·exact⟨PySem.F.slot_list_pop,PySem.F.type_list_pop⟩
 ·exact⟨PySem.F.slot_list_index,PySem.F.type_list_index⟩
theorem Ga{f id:String}(h:HI.lookup f=some id):BM "dict" f id:=by
 have:=dZ h
 simp only[HI,F8,Prod.mk.injEq,eP,or_false]at this
 clear h;obtain rfl:=this.1;obtain rfl:=this.2;try clear this
 exact⟨jA,PySem.F.type_dict_get⟩
theorem Mq{f id:String}(h:GB.lookup f=some id):BM "str" f id:=by
 have:=dZ h
 simp only[GB,F8,Prod.mk.injEq,eP,or_false]at this
 clear h;rcases this with⟨rfl,rfl⟩|⟨rfl,rfl⟩|⟨rfl,rfl⟩|⟨rfl,rfl⟩|⟨rfl,rfl⟩|⟨rfl,rfl⟩
 ·exact⟨PySem.F.slot_str_join,PySem.F.type_str_join⟩
 ·exact⟨PySem.F.slot_str_ljust,PySem.F.type_str_ljust⟩
 ·exact⟨PySem.F.slot_str_strip,PySem.F.type_str_strip⟩
 ·exact⟨PySem.F.slot_str_find,PySem.F.type_str_find⟩
 ·exact⟨PySem.F.slot_str_startswith,PySem.F.type_str_startswith⟩
 ·exact⟨gY,PySem.F.type_str_split⟩
def MethAt(W:Wd)(f:String)(fv:Value)(A:Around)(s:Shared)(pl:Sem Bool)(R:Value×List Value->Shared->Prop)(v:Value):Prop:=R (fv,[v]) s->mP W fv∧wpAny W.M A (getMethod v (Str.ofString f) pl) R (λ _ _=>False) s
theorem Cm(hW:W.Ok)(hT:W.jK tb){x:PV}{v fv:Value}{f:String}{A:Around}{s:Shared}{σ:PH}{pl:Sem Bool}{R:Value×List Value->Shared->Prop}(S:SR W σ s.heap)(rx:VR s.heap x v)(h:dY tb σ x f=some fv):MethAt W f fv A s pl R v:=
 dA (P:=λ x=>VR s.heap x v->MethAt W f fv A s pl R v) x h (λ h rx=>tQ (P:=λ x=>VR s.heap x v->MethAt W f fv A s pl R v) x h no (λ y h rx=>rx.qC (P:=MethAt W f fv A s pl R) λ t z hR=>by
   refine A0 (O3.mp h) λ id hZ=>?_;generalize hZ.1=h1;clear h;obtain rfl:=hZ.2;try clear hZ
   have b:=Mq h1
   exact⟨.builtin _,getMethod_builtin (typeIs_str _ _ _) PySem.F.plainAttrs_str b.slot b.ty (λ b e2=>by cases e2) hR⟩) rx)
  (λ a h rx=>rx.tF (P:=MethAt W f fv A s pl R)<|AS (P:=λ o=>σ a=o->MethAt W f fv A s pl R (.ref a)) (σ a) h
   (λ h e=>lD (P:=λ o=>σ a=o->MethAt W f fv A s pl R (.ref a)) (σ a) h (λ h e=>dB (P:=λ o=>σ a=o->MethAt W f fv A s pl R (.ref a)) (σ a) h no (λ xs h e hR=>by
     refine ee2.e (S.list e) λ vs k hZ=>?_;obtain⟨e1,_⟩:=hZ
     refine A0 (O3.mp h) λ id hZ=>?_;generalize hZ.1=h1;clear h;obtain rfl:=hZ.2;try clear hZ
     have b:=Fz h1
     exact⟨.builtin _,getMethod_builtin ⟨_,e1,rfl⟩ PySem.F.plainAttrs_list b.slot b.ty (λ b e2=>by cases e2;exact⟨_,e1,rfl⟩) hR⟩) e)
    (λ es ep h e hR=>by
     refine A0 (S.dict e) λ ob hZ=>?_;delta hZ e1 r
     refine A0 (O3.mp h) λ id hZ=>?_;generalize hZ.1=h1;clear h;obtain rfl:=hZ.2;try clear hZ
     have b:=Ga h1
     exact⟨.builtin _,getMethod_builtin (T:="dict") ⟨_,e1,by clear e1;cases r<;>rfl⟩ PySem.F.plainAttrs_dict b.slot b.ty (λ b e2=>by cases e2;exact⟨_,e1,by clear e1;cases r<;>rfl⟩) hR⟩) e)
   (λ C dx h e=>AT (P:=λ o=>σ dx=o->MethAt W f fv A s pl R (.ref a)) (σ dx) h no (λ D fs h e' hR=>by
    have hZ:=UY h;delta hZ hD h
    have hZ:=UY h;delta hZ hf h
    subst hD
    refine A0 (O3.mp h) λ fa hZ=>?_;generalize hZ.1=h1;clear h;clear h;obtain rfl:=hZ.2;try clear hZ
    have mo:=hT.H2 _ _ _ h1
    refine ee2.e (S.inst e e') λ es k hZ=>?_;delta hZ r e1 I
    refine⟨.ref mo.keep,method_fn (hW.IB.keeps S.keep) I mo.ga mo.gt mo.find mo.fn ?_ hR⟩
    clear A I S e e' e1 h h1 hR hT hW mo pl;rcases r.getL f with⟨_,z⟩|⟨y,v,z,_⟩
    ·unfold shadowIn;dsimp only;rw[lookIn_dict,z];rfl
    ·rw[z]at hf;cases hf) rfl) rfl) rx
theorem Ef(hW:W.Ok)(hT:W.jK tb){o:Expr}{a:Str}{f:String}{apos pos:Pos}{es:List Expr}{fo:T PV}{g:T (List PV)}(ha:a=Str.ofString f)(hn:NS o)(hl:(apos.endLine==pos.line)=true)(hz:es.length<20)
  (ho:Ev W n ns env o fo)(hs:UU W n ns env es g):
  Ev W n ns env (.Call (.Attribute o a apos) es [] pos) (λ ρ σ Q=>fo ρ σ λ ov B4=>∃fv,dY tb B4 ov f=some fv∧g ρ B4 λ xs H6=>J9 W n fv (ov::xs) H6 Q):=λ A s ρ σ Q rm S F h=>by
 subst ha
 rw[arm_eval_Call,hn]
 refine B6 (Ev.bind ho rm S F h λ v I2 x B4 ⟨fv,hf,q⟩ Y0 N5 U4 W6 Y6=>B6 (T9 ?_))
 have XR:methodCallForm (es.length+([]:List Keyword).length) (backTo pos (starEach es env)) (backToKw pos (keywordEach [] env))=true:=by
  have:(backTo pos (starEach es env)).all (λ x=>!x.1)=true:=by
   have:=hs.1
   unfold backTo
   rw[cR]
   rw[G3]at this ⊢
   intro x hx
   exact this x hx
  unfold methodCallForm
  rw[this]
  show(true&&(true&&decide (es.length+0+0<30)))=true
  simp;lia
 unfold methodCall
 rw[XR]
 have mk:=Cm (A:=A) (pl:=do return (<-importBound o env).getD true) (R:=λ p s'=>p=(fv,[v])∧s'=I2) hW hT N5 Y0 hf ⟨rfl,rfl⟩
 refine B6 (K2 (I7 mk.2 (λ p s' hp=>?_) λ _ _ z=>z))
 obtain rfl:=hp.1;obtain rfl:=hp.2;try clear hp
 unfold methodCallPos
 rw[hl]
 refine B6 (D4 ?_)
 exact K4.eM W6 Y6 (Il hW mk.1 hs rm N5 U4 (fx:=[x]) (.cons Y0 .nil) q)
end
abbrev Ey(es:Array DictEntry)(n:Nat):Obj:=⟨.type "dict",none,.dict es n,#[]⟩
section
variable{W:Wd}{A:Around}{E:Value->Shared->Prop}{s:Shared}
theorem Ql{d:Addr}{es:Array DictEntry}{n:Nat}{Q:Value->Shared->Prop}(hd:(d==sysModules)=false)(ho:s.heap.get? d=some (Ey es n))
  (hQ:Q (.ref s.heap.objs.size) {s with heap:=s.heap.push {cls:=.type "dict_keyiterator",data:=.fields #[.ref d,.int 0 0,.int es.size 0,.int n 0]}}):wpAny (model W.prog W.w) A (pyIter (.ref d)) Q E s:=by
 have hT:s.TypeIs (.ref d) "dict":=⟨_,ho,rfl⟩
 refine wpAny_pyIter_slot hT PySem.F.slot_dict_iter (cX PySem.F.slot_dict_iter hT PySem.F.entry_dict_iter ?_ (PySem.F.args_dict_iter_1 _))
 unfold Builtin.«dict.__iter__»
 refine B6 ?_
 unfold Builtin.Dict.dictSlotNone
 refine B6 (wpAny_notOrdered_dict hT ?_)
 show wpAny _ _ (pure (Value.ref d)) _ _ s
 refine D4 ?_
 show wpAny _ _ (Builtin.Dict.showsAll d>>=_) _ _ s
 unfold Builtin.Dict.showsAll
 rw[G0 (by rw[hd];exact C5)]
 refine B6 (D4 ?_)
 refine B6 (wpAny_dictEntries ho rfl ?_)
 refine B6 (wpAny_dictEpoch ho rfl ?_)
 refine B6 (aJ (D4 ⟨_,rfl,"dict_keyiterator",_,⟨_,N6 _ rfl,rfl⟩,V9.lookup,?_⟩))
 simpa[rawInt]using hQ
theorem MW{it d:Addr}{i n:Nat}{es:Array DictEntry}{Q:Option Value->Shared->Prop}(hit:s.heap.IsKeyIter it d i es.size n)(Qp:s.heap.get? d=some (Ey es n))(Xa:i<es.size)
  (hQ:∀h',h'.IsKeyIter it d (i+1) es.size n->Heap.SameBut it s.heap h'->Q (some es[i].key) {s with heap:=h'}):wpAny (model W.prog W.w) A (pyNext (.ref it)) Q E s:=by
 refine A0 (id hit) λ o hZ=>?_;generalize hZ.1=ho;generalize hZ.2=P4;delta P4 hc hd;try clear hZ
 unfold pyNext
 refine B6 (wpAny_attempt (wpAny_callSpecial?_slot (name:=Str.ofString "__next__") hit.typeIs V9
  (cX V9 hit.typeIs PySem.F.entry_dict_keyiterator_next ?_ (PySem.F.args_dict_keyiterator_next_1 _))))
 refine B6 (D4 ?_)
 refine B6 ?_
 refine B6 ?_
 first|refine B6 (dH hit.typeIs (D4 ?_))|refine B6 (gW hit.typeIs (D4 ?_))
 refine B6 (wpAny_fieldsOf ho hd ?_)
 have Ld:Builtin.Dict_items.ownsTuple "dict_keyiterator"=false:=by decide
 simp -iota only[Ld,cS,gX]
 show wpAny _ _ (if(Value.ref d==Value.none)=true then _ else _) _ _ s
 rw[G0 (show ¬((Value.ref d==Value.none)=true)from C5)]
 refine B6 (D4 ?_)
 refine B6 (wpAny_dictEntries Qp rfl ?_)
 rw[G0 (by simp)]
 refine B6 (D4 ?_)
 refine B6 (wpAny_dictEpoch Qp rfl ?_)
 rw[G0 (by simp)]
 refine D4 ?_
 dsimp only
 simp -iota only[show ¬((i:Int)<0)from by lia,gX,aZ,qA Xa]
 refine B6 ?_
 first|refine B6 (dH hit.typeIs (D4 ?_))|refine B6 (gW hit.typeIs (D4 ?_))
 refine B6 (wpAny_isOneOf_keyiter hit.typeIs ?_)
 show wpAny _ _ (setField (.ref it) 1 (rawInt ((i:Int)+1))>>=_) _ _ s
 refine B6 (wpAny_setField ho hd (by simp) ?_)
 have Qw:(s.heap.update it (Obj.mapFields (·.setIfInBounds 1 (rawInt ((i:Int)+1))))).IsKeyIter it d (i+1) es.size n:=
  ⟨_,Heap.get?_update_self _ ho (Obj.isFreed_of_fields (Obj.data_mapFields hd _)),(Obj.cls_mapFields ..).trans hc,by rw[Obj.data_mapFields hd];simp[rawInt]⟩
 refine B6 (K2 ?_)
 refine B6 (wpAny_isOneOf_keyiter (s:={s with heap:=s.heap.update it (Obj.mapFields (·.setIfInBounds 1 (rawInt ((i:Int)+1))))}) Qw.typeIs ?_)
 show wpAny _ _ (pure es[i].key) _ _ _
 exact D4 (D4 ⟨_,rfl,D4 (hQ _ Qw (cW ..))⟩)
theorem TB{it d:Addr}{i n:Nat}{es:Array DictEntry}{Q:Option Value->Shared->Prop}(hh:A.handled=none)(hit:s.heap.IsKeyIter it d i es.size n)(Qp:s.heap.get? d=some (Ey es n))(av:es.size<=i)
  (hQ:∀h',Heap.ExtBut it s.heap h'->Q none {s with heap:=h'}):wpAny (model W.prog W.w) A (pyNext (.ref it)) Q E s:=by
 refine A0 (id hit) λ o hZ=>?_;generalize hZ.1=ho;generalize hZ.2=P4;delta P4 hc hd;try clear hZ
 unfold pyNext
 refine B6 (wpAny_attempt (wpAny_callSpecial?_slot (name:=Str.ofString "__next__") hit.typeIs V9
  (cX V9 hit.typeIs PySem.F.entry_dict_keyiterator_next ?_ (PySem.F.args_dict_keyiterator_next_1 _))))
 refine B6 (D4 ?_)
 refine B6 ?_
 refine B6 ?_
 first|refine B6 (dH hit.typeIs (D4 ?_))|refine B6 (gW hit.typeIs (D4 ?_))
 refine B6 (wpAny_fieldsOf ho hd ?_)
 have Ld:Builtin.Dict_items.ownsTuple "dict_keyiterator"=false:=by decide
 simp -iota only[Ld,cS,gX]
 show wpAny _ _ (if(Value.ref d==Value.none)=true then _ else _) _ _ s
 rw[G0 (show ¬((Value.ref d==Value.none)=true)from C5)]
 refine B6 (D4 ?_)
 refine B6 (wpAny_dictEntries Qp rfl ?_)
 rw[G0 (by simp)]
 refine B6 (D4 ?_)
 refine B6 (wpAny_dictEpoch Qp rfl ?_)
 rw[G0 (by simp)]
 refine D4 ?_
 dsimp only
 simp -iota only[show ¬((i:Int)<0)from by lia,gX,aZ,Array.getElem?_eq_none av]
 refine B6 ?_
 first|refine B6 (dH hit.typeIs (D4 ?_))|refine B6 (gW hit.typeIs (D4 ?_))
 show wpAny _ _ (setField (.ref it) 0 .none>>=_) _ _ s
 refine B6 (wpAny_setField ho hd (by simp) ?_)
 show wpAny _ _ (newExc (.type "StopIteration") []>>=_) _ _ _
 refine B6 ?_
 simp -iota only[newExc,newTuple]
 refine B6 (aJ ?_ (by size_fits))
 refine B6 (m:=firstArgMember _ _) (wpAny_of_eq (a:=Value.none) (by first|rfl|(simp only[firstArgMember];rfl)) ?_)
 refine aJ ?_ (by size_fits)
 simp -iota only[raiseNew]
 refine B6 (wpAny_handled ?_)
 rw[show A.in1.handled=none from hh]
 refine B6 (D4 (wpAny_throw ?_))
 refine B6 (wpAny_isInstance (T:="StopIteration") (b:=true) ⟨_,N6 _ rfl,rfl⟩ isSubtype_stop ?_)
 exact D4 (hQ _ (((cW ..).extBut.push _).push _))
end
theorem ItemsAre.Sy{W:Wd}{h:Heap}{k:List Int}{l:List Value}(hi:PySem.ItemsAre W.ik k l):bO h (k.map .int) l:=by
 induction hi with
 |nil=>exact .nil
 |cons h1 _ ih=>
  refine A0 (Value.isInt_shape h1) λ t hZ=>?_;clear h1;obtain rfl:=hZ
  exact .cons (.int _ _) ih
theorem DR.obj{W:Wd}{h:Heap}{n:Nat}{es:List (PK×PV)}{ob:Obj}(x:DR W h n es ob)(hk:es.all (λ p=>!jT p.1)=true):∃ds:Array DictEntry,ob=Ey ds n∧bO h (es.map (·.1.pv)) (ds.toList.map (·.key)):=by
 cases x with
 |@i ds kvs kv b c d=>
  refine⟨ds,rfl,?_⟩
  clear d b
  generalize ds.toList=l at c
  induction kv generalizing l with
  |nil=>cases c;exact .nil
  |cons a b ih=>
   clear b;cases c with|cons c1 c2 c3=>
    simp only[dE,W2]at hk
    refine A0 (Value.isInt_shape c1) λ t e=>?_
    simp only[I6]
    rw[e]
    exact .cons (.int _ _) (ih hk.2 _ c3)
 |@s ds kvs kv b c d=>
  clear d b;cases kv with
  |nil=>
   have:ds=#[]:=by cases c':ds.toList with|nil=>simpa using c'|cons=>rw[c']at c;cases c
   clear c;subst this;exact⟨#[],rfl,.nil⟩
  |cons=>exact(C5 hk).elim
 |@t ds xs kt c d=>
  refine⟨ds,rfl,?_⟩
  rw[c]
  clear c d
  induction kt with
  |nil=>exact .nil
  |cons a b _ ih=>
   simp only[dE,W2]at hk
   refine A0 a.1 λ o Q0=>?_;intros Q0 items P4;intros P4 m fT;generalize fT.1=ho;generalize fT.2=nR;generalize nR.1=hc;generalize nR.2=uB;delta uB hd hi;try clear nR;try clear fT;delta a a hz
   refine .cons (.tup (vs:=items.toList) ⟨o,ho,hc,m,by simpa using hd⟩ ?_ (by simpa using hz)) (ih hk.2)
   exact ItemsAre.Sy hi
def OT(it:Addr)(h h':Heap):Prop:=∀b o,b≠it->h.get? b=some o->h'.get? b=some o
inductive rW(W:Wd)(σ:PH)(h:Heap)(it:Addr):PV->List PV->Prop
 |list {a:Addr} {xs:List PV} {i:Nat}:σ a=some (.list xs)->h.IsListIter it a i->rW W σ h it (.ref a) (xs.drop i)
 |tup {xs:List PV} {t:Addr} {vs:List Value} {i:Nat}:h.IsTuple t vs.toArray->bO h xs vs->h.IsTupleIter it t i->rW W σ h it (.tup xs) (xs.drop i)
 |rY {lo hi x:Int} {left:Nat}:IsRangeIter h it x left 1->rW W σ h it (.rY lo hi) ((List.range left).map λ k:Nat=>.int (x+(k:Int)))
 |dict {a:Addr} {es:List (PK×PV)} {n i:Nat}:σ a=some (.dict es n)->es.all (λ p=>!jT p.1)=true->h.IsKeyIter it a i es.length n->rW W σ h it (.ref a) ((es.map (·.1.pv)).drop i)
 |rev {a:Addr} {xs:List PV} {i:Nat}:σ a=some (.list xs)->h.IsRevIter it a ((i:Int) - 1)->i<=xs.length->rW W σ h it (.ref a) ((xs.take i).reverse)
section
variable{W:Wd}{n:Nat}{A:Around}{s:Shared}{σ:PH}
theorem rW.has{h:Heap}{it:Addr}{v:PV}{r:List PV}(x:rW W σ h it v r):∃o,h.get? it=some o∧cU o=false:=by
 cases x with
 |list e q=>intros q o hZ;generalize hZ.1=ho;generalize hZ.2=P4;delta P4 hc hd;try clear hZ;exact⟨o,ho,by simp[cU,hd,hc]⟩
 |tup e q z=>intros z o hZ;generalize hZ.1=ho;generalize hZ.2=P4;delta P4 hc hd;try clear hZ;exact⟨o,ho,by simp[cU,hd,hc]⟩
 |rY q=>exact⟨_,q,rfl⟩
 |dict e k q=>intros q o hZ;generalize hZ.1=ho;generalize hZ.2=P4;delta P4 hc hd;try clear hZ;exact⟨o,ho,by simp[cU,hd,hc]⟩
 |rev e q z=>intros q o hZ;generalize hZ.1=ho;generalize hZ.2=P4;delta P4 hc hd;try clear hZ;exact⟨o,ho,by simp[cU,hd,hc]⟩
theorem M9.here(σ:PH):∀iv:PV,M9 σ iv σ
 |.ref _=>rfl
 |.none|.bool _|.int _|.str _|.tup _|.rY _ _|.M7=>trivial
theorem M9.back{B4 B9:PH}:∀{iv:PV},M9 B4 iv σ->M9 B4 iv B9->M9 σ iv B9
 |.ref _,st,w=>Eq.trans w (Eq.symm st)
 |.none,_,_|.bool _,_,_|.int _,_,_|.str _,_,_|.tup _,_,_|.rY _ _,_,_|.M7,_,_=>trivial
theorem rW.of{h h':Heap}{it:Addr}{pv:PV}{xs:List PV}{B9:PH}(x:rW W σ h it pv xs)(m:nS h h')(kp:∀o,h.get? it=some o->h'.get? it=some o)(st:M9 σ pv B9):rW W B9 h' it pv xs:=by
 cases x with
 |list e q=>exact .list (Eq.trans st e) (let⟨_,ho,r⟩:=q;⟨_,kp _ ho,r⟩)
 |tup e q z=>exact .tup (IsTuple.V7 m e) (q.V7 m) (let⟨_,ho,r⟩:=z;⟨_,kp _ ho,r⟩)
 |rY q=>exact .rY (kp _ q)
 |dict e k q=>exact .dict (Eq.trans st e) k (let⟨_,ho,r⟩:=q;⟨_,kp _ ho,r⟩)
 |rev e q z=>exact .rev (Eq.trans st e) (let⟨_,ho,r⟩:=q;⟨_,kp _ ho,r⟩) z
theorem rW.eM{B9:PH}{h h':Heap}{it:Addr}{pv:PV}{xs:List PV}(S:SR W σ h)(hi:σ it=none)(x:rW W σ h it pv xs)(t:kB σ h B9 h')(st:M9 σ pv B9):rW W B9 h' it pv xs:=x.of (t.V7 S) (λ o e=>(t.bN it o e hi).1) st
theorem SR.fJ{h h':Heap}{it:Addr}{o:Obj}(S:SR W σ h)(hi:σ it=none)(hb:W.h₀.get? it=none)(e:h.get? it=some o)(ho:cU o=false)(k:OT it h h'):SR W σ h'∧nS h h':=by
 have m:nS h h':=λ a p e' i=>k a p (by clear k hb;rintro rfl;rw[e]at e';cases e';rw[ho]at i;cases i) e'
 refine⟨⟨λ a po e'=>?_,λ b p e'=>k b p (by clear k;rintro rfl;rw[hb]at e';cases e') (S.keep b p e'),S.new⟩,m⟩
 refine A0 (S.obj a po e') λ ob hZ=>?_;delta hZ e1 r
 exact⟨ob,k a ob (by clear k hb e;rintro rfl;rw[hi]at e';cases e') e1,r.V7 m⟩
theorem SameBut.fJ{h h':Heap}{it:Addr}(x:Heap.SameBut it h h'):OT it h h':=λ b o n e=>(x.2 b n).trans e
theorem drop_cons{α:Type}{xs:List α}{i:Nat}{y:α}{r:List α}(e:xs.drop i=y::r):xs[i]? =some y∧xs.drop (i+1)=r:=by
 have h:i<xs.length:=by
  apply Nat.lt_of_not_le;intro q;rw[List.drop_of_length_le q]at e;cases e
 rw[eV h]at e
 injection e with e1 e2
 exact⟨by rw[C4 h,e1],e2⟩
theorem drop_nil{α:Type}{xs:List α}{i:Nat}(e:xs.drop i=[]):xs.length<=i:=by
 apply jN;intro h;rw[eV h]at e;cases e
theorem rW.next{it:Addr}{v:PV}{l:List PV}{R:Option Value->Shared->Prop}{E:Value->Shared->Prop}(rm:Rm n A)(S:SR W σ s.heap)(hi:σ it=none)(hb:W.h₀.get? it=none)(x:rW W σ s.heap it v l)
  (hc:∀y r,l=y::r->∀u h' tk,VR h' y u->rW W σ h' it v r->SR W σ h'->OT it s.heap h'->R (some u) {s with heap:=h',toks:=tk})
  (hn:l=[]->∀h' tk,SR W σ h'->OT it s.heap h'->R none {s with heap:=h',toks:=tk}):wpAny W.M A (pyNext (.ref it)) R E s:=by
 refine A0 (x.has) λ oi hZ=>?_;delta hZ ei ni
 cases hl:l with
 |nil=>
  have fin:∀h',Heap.ExtBut it s.heap h'->R none {s with heap:=h'}:=λ h' k=>hn hl h' s.toks (S.fJ hi hb ei ni (λ b o n e=>k b o n e)).1 λ b o n e=>k b o n e
  clear hn;clear hc;cases x with
  |list e q=>
   refine ee2.e (S.list e) λ vs k hZ=>?_;delta hZ e1 r1 z
   have:=r1.length
   exact wpAny_pyNext_list_end rm.hd q (Q3 e1) (by have:=drop_nil hl;simp;lia) fin
  |tup t r1 q=>
   have:=r1.length
   exact wpAny_pyNext_tuple_end rm.hd q t (by have:=drop_nil hl;simp;lia) fin
  |@rY lo hi x left q=>
   have:left=0:=by
    clear q;cases left with
    |zero=>rfl
    |succ k=>simp[aF]at hl
   subst this
   exact wpAny_pyNext_range_end rm.hd q (by simp) fin
  |dict e k q=>
   refine A0 (S.dict e) λ ob hZ=>?_;delta hZ e1 r
   refine A0 (r.obj k) λ ds hZ=>?_;clear r;obtain rfl:=hZ.1;delta hZ hZ rr
   have l1:=rr.length
   simp only[A8,bY]at l1
   rw[<-l1]at q
   exact TB rm.hd q e1 (by have:=drop_nil hl;simp at this;lia) fin
  |@rev a xs i e q z=>
   refine ee2.e (S.list e) λ vs k hZ=>?_;delta hZ e1 r1
   have:i=0:=by
    have:=C7 List.length hl
    simp only[List.length_reverse,Y1,List.length_nil]at this;lia
   clear z;subst this
   exact wpAny_pyNext_rev_end rm.hd q fin
 |cons y r=>
  have fin:∀u h' tk,(∀Di,nS s.heap Di->VR Di y u)->rW W σ h' it v r->Heap.SameBut it s.heap h'->R (some u) {s with heap:=h',toks:=tk}:=λ u h' tk ru ir k=>by
   have q:=S.fJ hi hb ei ni (SameBut.fJ k)
   exact hc y r hl u h' tk (ru _ q.2) ir q.1 (SameBut.fJ k)
  clear hc hn rm;cases x with
  |@list a xs i e q=>
   refine ee2.e (S.list e) λ vs k hZ=>?_;delta hZ e1 r1 z
   have hZ:=drop_cons hl;delta hZ d1 d2
   refine A0 (r1.get d1) λ u hZ=>?_;delta hZ e2 r2
   exact wpAny_pyNext_list_item q (Q3 e1) (by simpa using e2) λ h' q' k=>fin u h' s.toks (λ _ m=>r2.V7 m) (d2▸.list e q') k
  |@tup xs t vs i ht r1 q=>
   have hZ:=drop_cons hl;delta hZ d1 d2
   refine A0 (r1.get d1) λ u hZ=>?_;delta hZ e2 r2
   refine wpAny_pyNext_tuple_item q ht (by simpa using e2) λ h' q' k=>fin u h' s.toks (λ _ m=>r2.V7 m) (d2▸?_) k
   have m:=(S.fJ hi hb ei ni (SameBut.fJ k)).2
   exact .tup (IsTuple.V7 m ht) (r1.V7 m) q'
  |@rY lo XQ x left q=>
   cases left with
   |zero=>simp at hl
   |succ k=>
    simp only[aF,I6,G2]at hl
    injection hl with h1 h2
    refine wpAny_pyNext_range_item q (by lia) λ h' q' sb=>?_
    refine fin _ h' _ (λ _ m=>?_) ?_ sb
    ·rw[<-h1];simpa using VR.int x s.toks
    ·rw[<-h2]
     have:IsRangeIter h' it (x+1) (k:Nat) 1:=by
      have e:((k+1:Nat):Int) - 1=(k:Int):=by lia
      rw[<-e];exact q'
     have:=rW.rY (W:=W) (σ:=σ) (lo:=lo) (hi:=XQ) this
     have e:((List.range k).map λ j:Nat=>PV.int (x+1+(j:Int)))=List.map ((λ j:Nat=>PV.int (x+(j:Int)))∘Nat.succ) (List.range k):=by
      apply P1;intro j _;simp only[Function.comp,Nat.succ_eq_add_one];congr 1;lia
     rw[<-e];exact this
  |@dict a es m i e k q=>
   refine A0 (S.dict e) λ ob hZ=>?_;delta hZ e1 r
   refine A0 (r.obj k) λ ds hZ=>?_;clear r;obtain rfl:=hZ.1;delta hZ hZ rr
   have hZ:=drop_cons hl;delta hZ d1 d2
   refine A0 (rr.get d1) λ u hZ=>?_;delta hZ e2 r2
   have l1:=rr.length
   simp only[A8,bY]at l1
   have BJ:i<ds.size:=by
    have:=(D3.mp e2).1
    simpa using this
   have eu:ds[i].key=u:=by
    rw[H9,Array.getElem?_toList,qA BJ]at e2
    simpa using e2
   rw[<-l1]at q
   refine MW q e1 BJ λ h' q' sb=>?_
   rw[eu]
   rw[l1]at q'
   exact fin u h' s.toks (λ _ m=>r2.V7 m) (d2▸.dict e k q') sb
  |@rev a xs i e q z=>
   refine ee2.e (S.list e) λ vs k hZ=>?_;delta hZ e1 r1
   cases i with
   |zero=>simp at hl
   |succ j=>
    have hj:j<xs.length:=by lia
    rw[List.take_succ_eq_append_getElem hj,List.reverse_append]at hl
    simp only[List.reverse_cons,List.reverse_nil,X5,P7]at hl
    injection hl with h1 h2
    refine A0 (r1.get (C4 hj)) λ u hZ=>?_;delta hZ e2 r2
    have q0:s.heap.IsRevIter it a (j:Int):=by
     have e:((j+1:Nat):Int) - 1=(j:Int):=by lia
     rw[<-e];exact q
    refine wpAny_pyNext_rev_item q0 (Q3 e1) (by simpa using e2) λ h' q' sb=>?_
    exact fin u h' s.toks (λ _ m=>h1▸r2.V7 m) (h2▸.rev e q' (by lia)) sb
end
section
variable{W:Wd}{n:Nat}{A:Around}{s:Shared}{σ:PH}{E:Value->Shared->Prop}
theorem rangeSize_one(lo hi:Int):Builtin.Range.rangeSize lo hi 1=(((hi - lo).toNat:Nat):Int):=by
 unfold Builtin.Range.rangeSize
 by_cases h:lo<hi
 ·rw[F7 (by decide),F7 h,Int.ediv_one];lia
 ·rw[F7 (by decide),G0 h];lia
theorem IW{lo hi:Int}(h1:IO lo)(h2:IO hi):Builtin.Range.small lo hi 1=true:=by
 unfold IO at h1 h2
 unfold Builtin.Range.small
 rw[rangeSize_one]
 unfold Builtin.Range.rangeFitsLong
 simp only[W2,Bool.or_eq_true,P8]
 refine⟨⟨⟨⟨⟨by lia,by lia⟩,⟨by lia,by lia⟩⟩,by lia,by lia⟩,⟨by lia,by lia⟩⟩,.inr ?_⟩
 rw[F7 (by decide)]
 simp only[W2,P8]
 exact⟨by lia,by lia⟩
theorem QK(hW:W.Ok){pv:PV}{v:Value}{xs:List PV}{Q:Value->Shared->Prop}(S:SR W σ s.heap)(r:VR s.heap pv v)(h:mB σ pv xs)
  (hQ:∀it h',σ it=none->W.h₀.get? it=none->s.heap.get? it=none->rW W σ h' it pv xs->(∀b o,s.heap.get? b=some o->h'.get? b=some o)->Q (.ref it) {s with heap:=h'}):
  wpAny W.M A (pyIter v) Q E s:=by
 have fr:s.heap.get? s.heap.objs.size=none:=W7 (D7 _)
 have fs:=S.fresh fr
 have fb:=S.fK fr
 have fin:∀ob:Obj,rW W σ (s.heap.push ob) s.heap.objs.size pv xs->Q (.ref s.heap.objs.size) {s with heap:=s.heap.push ob}:=λ ob hi=>hQ _ _ fs fb fr hi (Q6 _ _)
 delta h h1 h2 h3
 clear fb fr fs h2 hQ;cases r with
 |@tup ys a vs ht rs=>
  clear h3;cases h1
  refine wpAny_pyIter_tuple ht (fin _ ?_)
  have m:=Q6 s.heap {cls:=.type "tuple_iterator",data:=.fields #[.ref a,.int 0 0]}
  exact .tup (i:=0) (IsTuple.V7 (.keeps m) ht) (rs.V7 (.keeps m)) ⟨_,N6 _ rfl,rfl,rfl⟩
 |@rY lo hi a t u v q=>
  cases h1
  refine wpAny_pyIter_range q (IW h3.1 h3.2) (fin _ ?_)
  rw[rangeSize_one]
  exact .rY (N6 _ rfl)
 |ref a=>
  exact lD (P:=λ o=>σ a=o->wpAny W.M A (pyIter (.ref a)) Q E s) (σ a) h1 (λ h1 e=>dB (P:=λ o=>σ a=o->wpAny W.M A (pyIter (.ref a)) Q E s) (σ a) h1 no (λ ys h1 e=>by
    obtain rfl:ys=xs:=H1 h1
    refine ee2.e (S.list e) λ vs k hZ=>?_;delta hZ e1 r1 z
    exact wpAny_pyIter_list (Q3 e1) (fin _ (.list (i:=0) e ⟨_,N6 _ rfl,rfl,rfl⟩))) e)
   (λ es ep h1 e=>by
    have hZ:=UY h1;delta hZ hk h1
    obtain rfl:=H1 h1
    refine A0 (S.dict e) λ ob hZ=>?_;delta hZ e1 r1
    refine A0 (r1.obj hk) λ ds hZ=>?_;clear r1;obtain rfl:=hZ.1;delta hZ hZ rr
    have l1:=rr.length
    rw[A8,A8,bY]at l1
    refine Ql (hW.vP S e) e1 (fin _ (.dict (i:=0) e hk ?_))
    rw[<-l1]
    exact⟨_,N6 _ rfl,rfl,rfl⟩) rfl
 |_=>cases h1
theorem TE{it:Addr}{pv:PV}{xs:List PV}{Q:Value->Shared->Prop}(x:rW W σ s.heap it pv xs)(h:Q (.ref it) s):wpAny W.M A (pyIter (.ref it)) Q E s:=by
 cases x with
 |list e q=>exact wpAny_pyIter_listiter q h
 |tup e q z=>exact wpAny_pyIter_tupleiter z h
 |rY q=>exact wpAny_pyIter_rangeiter q h
 |dict e k q=>exact wpAny_pyIter_keyiter q h
 |rev e q z=>exact wpAny_pyIter_revIter q h
end
structure fV(P:Addr->Prop)(σ:PH)(h:Heap)(B9:PH)(h':Heap):Prop where
 bN:∀b o,h.get? b=some o->σ b=none->¬P b->h'.get? b=some o∧B9 b=none
 ID:∀b,σ b≠none->B9 b≠none
theorem fV.refl(P:Addr->Prop)(σ:PH)(h:Heap):fV P σ h σ h:=⟨λ _ _ e n _=>⟨e,n⟩,λ _ e=>e⟩
theorem fV.trans{P:Addr->Prop}{σ B4 H6:PH}{h mF iM:Heap}(x:fV P σ h B4 mF)(y:fV P B4 mF H6 iM):fV P σ h H6 iM:=
 ⟨λ b o e n p=>let⟨e1,n1⟩:=x.bN b o e n p;y.bN b o e1 n1 p,λ b e=>y.ID b (x.ID b e)⟩
theorem fV.of{P:Addr->Prop}{σ B9:PH}{h h':Heap}(x:kB σ h B9 h'):fV P σ h B9 h':=⟨λ b o e n _=>x.bN b o e n,x.ID⟩
theorem fV.mono{P P':Addr->Prop}{σ B9:PH}{h h':Heap}(x:fV P σ h B9 h')(k:∀b,P b->P' b):fV P' σ h B9 h':=⟨λ b o e n p=>x.bN b o e n λ q=>p (k b q),x.ID⟩
def KY(env:Env)(L:Bool)(b:Addr):Prop:=b=env.locals∨(L=false∧∃x,DJ env x=some b)
theorem KY.own{env:Env}{L:Bool}{b:Addr}(x:KY env L b):rK env b:=x.imp id λ y=>y.2
abbrev HZ(env:Env):=fV (rK env)
inductive Ap(ns:List (Option Str))(env:Env)(L:Bool):List Expr->List Nat->Prop
 |nil:Ap ns env L [] []
 |cons {x:Str} {p:Pos} {i:Nat} {es:List Expr} {is:List Nat}:ns[i]? =some (some x)->(env.kindOf x=some .local∨(L=false∧(x≠"__class__"∧env.kindOf x=some .cell)))->Ap ns env L es is->Ap ns env L (.Name x p::es) (i::is)
inductive Tg(ns:List (Option Str))(env:Env)(L:Bool):Expr->Nat->List Nat->Prop
 |one {x:Str} {p:Pos} {i:Nat}:ns[i]? =some (some x)->(env.kindOf x=some .local∨(L=false∧(x≠"__class__"∧env.kindOf x=some .cell)))->Tg ns env L (.Name x p) 0 [i]
 |tup {es:List Expr} {is:List Nat} {c:Nat} {p:Pos} {k:Nat}:Ap ns env L es is->es.length=k+1->Tg ns env L (.Tuple es c p) (k+1) is
section
variable{W:Wd}{n:Nat}{ns:List (Option Str)}{ρ:List PV}{env:Env}{A:Around}{s:Shared}{σ:PH}{E:Value->Shared->Prop}
theorem AP{h:Heap}{b:Addr}{o:Obj}(F:FR W ns ρ env σ h)(hb:rK env b)(e:h.get? b=some o):cU o=false:=by
 rcases hb with rfl|⟨x,hx⟩
 ·refine A0 (F.val) λ m hZ=>?_;refine A0 hZ.1 λ o' P4=>?_;intros P4 es fT;intros fT ep rZ;generalize rZ.1=ho;generalize rZ.2=uB;delta uB hd;try clear rZ;try clear hZ
  rw[e]at ho;cases ho;simp[cU,hd]
 ·refine A0 (F.cells x b hx) λ v hZ=>?_;intros hZ o' Q0;delta Q0 ho hd
  rw[e]at ho;cases ho;simp[cU,hd]
theorem fV.V7{P:Addr->Prop}{B9:PH}{h h':Heap}(S:SR W σ h)(F:FR W ns ρ env σ h)(k:∀b,P b->rK env b)(x:fV P σ h B9 h'):nS h h':=λ a o e i=>by
 cases q:σ a with
 |none=>exact(x.bN a o e q λ p=>by have:=AP F (k a p) e;rw[this]at i;cases i).1
 |some po=>
  refine A0 (S.obj a po q) λ ob hZ=>?_;delta hZ e' r
  rw[e]at e';cases e'
  rw[r.MU]at i;cases i
theorem SR.Pu{h h':Heap}{a:Addr}(S:SR W σ h)(F:FR W ns ρ env σ h)(ha:rK env a)(k:Heap.SameBut a h h'):SR W σ h'∧nS h h':=by
 have m:nS h h':=λ b p e' i=>(k.2 b (by clear k;rintro rfl;rw[AP F ha e']at i;cases i)).trans e'
 refine⟨⟨λ b po e'=>?_,λ b p e'=>?_,S.new⟩,m⟩
 ·refine A0 (S.obj b po e') λ ob hZ=>?_;delta hZ e1 r
  exact⟨ob,(k.2 b (by clear k;rintro rfl;rw[(F.own b ha).1]at e';cases e')).trans e1,r.V7 m⟩
 ·exact(k.2 b (by clear k;rintro rfl;rw[(F.own b ha).2]at e';cases e')).trans (S.keep b p e')
theorem lG{α:Type}{l:List α}{i j:Nat}{a b:α}(h:(l.set i a)[j]? =some b):(i=j∧b=a)∨(i≠j∧l[j]? =some b):=by
 by_cases e:i=j
 ·subst e
  rw[List.getElem?_set_self']at h
  cases hl:l[i]? with
  |none=>rw[hl]at h;cases h
  |some c=>rw[hl]at h;simp at h;exact .inl ⟨rfl,h.symm⟩
 ·rw[List.getElem?_set_ne e]at h;exact .inr ⟨e,h⟩
theorem sV{L:Bool}(hE:U5 env){i:Nat}{x:Str}{pv:PV}{v:Value}{Q:Unit->Shared->Prop}(S:SR W σ s.heap)(F:FR W ns ρ env σ s.heap)(hi:ns[i]? =some (some x))
  (hk:env.kindOf x=some .local∨(L=false∧(x≠"__class__"∧env.kindOf x=some .cell)))(r:VR s.heap pv v)
  (hQ:∀h' tk,SR W σ h'->FR W ns (ρ.set i pv) env σ h'->fV (KY env L) σ s.heap σ h'->Q () {s with heap:=h',toks:=tk}):wpAny W.M A (storeName env x v) Q E s:=by
 refine A0 (F.val) λ m hZ=>?_;delta hZ hn hv
 have BX:∀y c,DJ env y=some c->c≠env.locals:=λ y c hc e=>by
  refine A0 (F.cells y c hc) λ v' hZ=>?_;intros hZ o Q0;delta Q0 ho hd
  intros hn o' hZ;intros hZ es Q0;intros Q0 ep P4;generalize P4.1=LD;generalize P4.2=rZ;delta rZ VA;try clear P4
  rw[e,LD]at ho;clear LD;cases ho;rw[VA]at hd;cases hd
 rcases hk with hl|⟨rfl,Qs,hl⟩
 ·refine wpAny_storeName_local hl hn (λ h' b5 sb=>?_) (by rw[hE.kind];rfl)
  have hZ:=SR.Pu S F (.inl rfl) sb;delta hZ S' im
  refine hQ h' _ S' ⟨⟨_,b5,λ j y pw a b c=>?_⟩,λ y c hc=>?_,F.inj,F.own,by rw[O9];exact F.len,F.nd⟩ ⟨λ b o e q p=>⟨(sb.2 b λ e'=>p (.inl e')).trans e,q⟩,λ _ e=>e⟩
  ·clear b5;clear hQ;rcases lG b with⟨rfl,rfl⟩|⟨ne,b⟩
   ·rw[hi]at a;cases a
    exact⟨v,r.V7 im,.inl ⟨hl,F7 rfl⟩⟩
   ·have xy:y≠x:=by clear hl;rintro rfl;exact ne (F.nd i j _ hi a)
    refine A0 (hv j y pw a b c) λ u hZ=>?_;delta hZ r1 q
    exact⟨u,r1.V7 im,q.imp (λ q=>⟨q.1,(G0 xy).trans q.2⟩) λ⟨k,c',e,hc⟩=>⟨k,c',e,hc.sameBut sb (BX y c' e)⟩⟩
  ·refine A0 (F.cells y c hc) λ u hu=>?_
   exact⟨u,hu.sameBut sb (BX y c hc)⟩
 ·refine A0 (hE.cls x Qs (.inl hl)) λ c hc=>?_
  refine A0 (F.cells x c hc) λ Ou XS=>?_
  refine wpAny_storeName_cell hE.kind hl (mI hc) XS λ h' VB sb=>?_
  have hZ:=SR.Pu S F (.inr ⟨x,hc⟩) sb;delta hZ S' im
  refine hQ h' s.toks S' ⟨⟨m,hn.sameBut sb (gZ (BX x c hc)),λ j y pw a b c₂=>?_⟩,λ y c₂ QQ=>?_,F.inj,F.own,by rw[O9];exact F.len,F.nd⟩ ⟨λ b o e q p=>⟨(sb.2 b λ e'=>p (.inr ⟨rfl,x,e'▸hc⟩)).trans e,q⟩,λ _ e=>e⟩
  ·clear S S' BX hE hQ XS hn Qs Ou;rcases lG b with⟨rfl,rfl⟩|⟨ne,b⟩
   ·rw[hi]at a;cases a
    exact⟨v,r.V7 im,.inr ⟨.inl hl,c,hc,VB⟩⟩
   ·have xy:y≠x:=by clear Q hl r;clear hc;rintro rfl;exact ne (F.nd i j _ hi a)
    refine A0 (hv j y pw a b c₂) λ u hZ=>?_;delta hZ r1 q
    exact⟨u,r1.V7 im,q.imp id λ⟨k,c',e,Uc⟩=>⟨k,c',e,Uc.sameBut sb λ e'=>xy (F.inj y x c' e (e'▸hc))⟩⟩
  ·by_cases e:c₂=c
   ·clear S S' BX hE hQ hc XS hi hl hn Qs hv i im m r Ou x;clear sb;subst e;exact⟨_,VB⟩
   ·refine A0 (F.cells y c₂ QQ) λ u hu=>?_
    exact⟨u,hu.sameBut sb e⟩
theorem jZ{L:Bool}(hE:U5 env){i:Nat}{x:Str}{p:Pos}{pv:PV}{v:Value}{Q:Unit->Shared->Prop}(S:SR W σ s.heap)(F:FR W ns ρ env σ s.heap)(hi:ns[i]? =some (some x))
  (hk:env.kindOf x=some .local∨(L=false∧(x≠"__class__"∧env.kindOf x=some .cell)))(r:VR s.heap pv v)
  (hQ:∀h' tk,SR W σ h'->FR W ns (ρ.set i pv) env σ h'->fV (KY env L) σ s.heap σ h'->Q () {s with heap:=h',toks:=tk}):wpAny W.M A (assign (.Name x p) env v) Q E s:=
 wpAny_assign_Name (sV hE S F hi hk r hQ)
theorem KK{L:Bool}(hE:U5 env){es:List Expr}{is:List Nat}(tg:Ap ns env L es is):∀{ρ:List PV} {s:Shared} {xs:List PV} {vs:List Value} {Q:Unit->Shared->Prop},SR W σ s.heap->FR W ns ρ env σ s.heap->bO s.heap xs vs->xs.length=es.length->
  (∀h' tk,SR W σ h'->FR W ns (aN is xs ρ) env σ h'->fV (KY env L) σ s.heap σ h'->Q () {s with heap:=h',toks:=tk})->wpAny W.M A (assignInOrder ((assignEach es env).map (·.2)) vs) Q E s:=by
 induction tg with
 |nil=>
  intro ρ s xs vs Q S F r l hQ
  cases r with
  |nil=>exact D4 (hQ s.heap s.toks S F (.refl _ _ _))
  |cons=>simp at l
 |@cons x p i es is hi hk _ ih=>
  intro ρ s xs vs Q S F r l hQ
  cases r with
  |nil=>simp at l
  |@cons pv v q8 Vf a b=>
   show wpAny _ _ (holding Vf (assign (.Name x p) env v)>>=λ _=>assignInOrder ((assignEach es env).map (·.2)) Vf) _ _ s
   refine B6 (K2 (jZ hE S F hi hk a λ h' tk S' F' st=>?_))
   refine ih (s:={s with heap:=h',toks:=tk}) S' F' (b.V7 (st.V7 S F λ _=>KY.own)) (by simpa using l) λ Di Tc Yl Yq Zb=>?_
   exact hQ Di Tc Yl Yq (st.trans Zb)
theorem TV{L:Bool}{es:List Expr}{is:List Nat}(tg:Ap ns env L es is):(assignEach es env).length=es.length∧(assignEach es env).findIdx? (·.1)=none:=by
 induction tg with
 |nil=>exact⟨rfl,rfl⟩
 |@cons x p i es is _ _ _ ih=>
  refine⟨?_,?_⟩
  ·show(_::assignEach es env).length=_
   simp[ih.1]
  ·show List.findIdx? _ ((false,assign (.Name x p) env)::assignEach es env)=none
   simp[List.findIdx?_cons,ih.2]
theorem pH{L:Bool}(hE:U5 env){t:Expr}{k:Nat}{is:List Nat}(tg:Tg ns env L t k is){pv:PV}{ys:List PV}{v:Value}{Q:Unit->Shared->Prop}(rm:Rm n A)(S:SR W σ s.heap)(F:FR W ns ρ env σ s.heap)
  (r:VR s.heap pv v)(hb:eH k pv=some ys)
  (hQ:∀h' tk,SR W σ h'->FR W ns (aN is ys ρ) env σ h'->fV (KY env L) σ s.heap σ h'->Q () {s with heap:=h',toks:=tk}):wpAny W.M A (assign t env v) Q E s:=by
 cases tg with
 |one hi hk=>cases hb;exact jZ hE S F hi hk r λ h' tk S' F' st=>hQ h' tk S' F' st
 |@tup es is c p k tg hl=>
  simp only[eH]at hb
  cases r with
  |@tup xs a vs ht rs _=>
   simp only at hb
   split at hb
   ·rename_i hlen
    cases hb
    have l:=rs.length
    have hZ:=TV tg;delta hZ e1 e2
    refine wpAny_assign_Tuple rm.hd ht (by rw[e1,hl,H0,l];exact hlen.symm) e2 λ h' eb=>?_
    have kp:∀b o,s.heap.get? b=some o->h'.get? b=some o:=λ b o e=>eb b o (by rintro rfl;exact Nat.lt_irrefl _ (kL e)) e
    have S':=S.keeps kp
    refine KK (s:={s with heap:=h'}) hE tg S' (F.eM S (.keeps kp)) (rs.V7 (.keeps kp)) (by lia) λ Di tk Yl Yq st=>?_
    exact hQ Di tk Yl Yq ((fV.of (.keeps kp)).trans st)
   ·cases hb
  |_=>cases hb
theorem JP{L:Bool}{t:Expr}{k:Nat}{is:List Nat}(tg:Tg ns env L t k is){it:Addr}{pv:PV}{l:List PV}{v:Value}{Q:Unit->Shared->Prop}(x:rW W σ s.heap it pv l)(h:Q () s):wpAny W.M A (letOwnedTupleGo t (.ref it) v) Q E s:=by
 cases tg with
 |one=>exact D4 h
 |tup=>
  have key:∃o vs T,s.heap.get? it=some o∧o.cls=.type T∧o.data=.fields vs∧(["enumerate","zip","dict_itemiterator","dict_reverseitemiterator","odict_iterator","itertools.zip_longest","itertools.pairwise"].contains T)=false:=by
   cases x with
   |list e q=>intros q o hZ;generalize hZ.1=ho;generalize hZ.2=P4;delta P4 hc hd;try clear hZ;exact⟨o,_,_,ho,hc,hd,by decide⟩
   |tup e q z=>intros z o hZ;generalize hZ.1=ho;generalize hZ.2=P4;delta P4 hc hd;try clear hZ;exact⟨o,_,_,ho,hc,hd,by decide⟩
   |rY q=>exact⟨_,_,_,q,rfl,rfl,by decide⟩
   |dict e k q=>intros q o hZ;generalize hZ.1=ho;generalize hZ.2=P4;delta P4 hc hd;try clear hZ;exact⟨o,_,_,ho,hc,hd,by decide⟩
   |rev e q z=>intros q o hZ;generalize hZ.1=ho;generalize hZ.2=P4;delta P4 hc hd;try clear hZ;exact⟨o,_,_,ho,hc,hd,by decide⟩
  intros key o vs T hZ;delta hZ ho hc hd hT
  unfold letOwnedTupleGo
  cases v with
  |ref a=>
   refine B6 (wpAny_load ho ?_)
   rw[hc,hd]
   simp only[hT,Bool.false_and,cS,gX]
   exact D4 h
  |_=>exact D4 h
end
section
variable{W:Wd}{n:Nat}{A:Around}{s:Shared}{σ:PH}{E:Value->Shared->Prop}
theorem HK{R:Result->Shared->Prop}{elt target iter:Expr}{ifs:List Expr}{scope:Scope}{pos:Pos}{it acc:Value}{env:Env}(I:Nat->Shared->Prop)
  (turn:∀n s,I n s->wpAny W.M A (pyNext it) (λ r I2=>match r with
   |none=>R (.ok .next) I2
   |some v=>wpAny W.M A (letOwnedTupleGo target it v) (λ _ VO=>wpAny W.M A (assign target env v) (λ _ fC=>
     wpAny W.M A (forIn ifs true λ c r=>if r=true then do let ok <-isTrue c env (eval c env);pure (ForInStep.yield ok)else pure (ForInStep.yield r)) (λ ok aU=>
      if ok=true then wpAny W.M A (eval elt env) (λ x LR=>
       wpAny W.M A (call (.builtin "list.append") [acc,x]) (λ _ Bv=>∃m,And (m<n) (I m Bv)) (λ _ _=>False) LR) (λ _ _=>False) aU
      else ∃m,And (m<n) (I m aU)) (λ _ _=>False) fC) (λ _ _=>False) VO) (λ _ _=>False) I2) (λ _ _=>False) s)
  (n:Nat)(h:I n s):codeAny W.M A (.compLoop (.ListComp elt [⟨target,iter,ifs,0⟩] scope pos) 0 it acc env) R s:=by
 refine codeAny_loop rfl I (λ n s hI=>?_) n h
 show wpAny _ A ((compTurn (.ListComp elt [⟨target,iter,ifs,0⟩] scope pos) 0 it acc env).onRaise (λ x=>do noteFrame x env;theTreesLotGoes x)) _ _ s
 refine wpAny_noted ?_
 rw[compTurn_list]
 refine B6 (T9 (B6 (I7 (turn n s hI) (λ r I2 mF=>?_) λ _ _ h'=>h'.elim)))
 cases r with
 |none=>exact D4 mF
 |some v=>
  refine B6 (I7 mF (λ _ VO Qo=>?_) λ _ _ h'=>h'.elim)
  refine B6 (I7 Qo (λ _ fC iM=>B6 (I7 iM (λ ok aU uA=>?_) λ _ _ h'=>h'.elim)) λ _ _ h'=>h'.elim)
  cases ok with
  |false=>exact D4 ⟨rfl,uA⟩
  |true=>
   exact B6 (B6 (I7 uA (λ x LR Wm=>B6 (I7 Wm (λ _ Bv Wl=>D4 (D4 ⟨rfl,Wl⟩)) λ _ _ h'=>h'.elim)) λ _ _ h'=>h'.elim))
theorem cJ{x y:Str}{c:Addr}{l:List (Str×Addr)}:List.lookup x ((y,c)::l)=if x=y then some c else List.lookup x l:=by
 rw[I1]
 by_cases q:x=y
 ·subst q;simp
 ·rw[G0 q]
  have:(x==y)=false:=by simpa using q
  rw[this]
theorem Sa{scope:Scope}{env:Env}(h:∀x,(x,NameKind.free)∈scope.names->∃c,env.cells.lookup x=some c):
  ∃cl,closureFor scope env=pure cl∧(∀x c,cl.lookup x=some c->env.cells.lookup x=some c)∧(∀x,(x,NameKind.free)∈scope.names->∃c,cl.lookup x=some c):=by
 have gen:∀(l:List (Str×NameKind)) (acc:List (Str×Addr)),(∀x,(x,NameKind.free)∈l->∃c,env.cells.lookup x=some c)->(∀x c,acc.lookup x=some c->env.cells.lookup x=some c)->
   ∃cl,(forIn l acc (λ x r=>(match x with
    |(name,kind)=>if kind==.free then do let y <-cellOf env name;pure (ForInStep.yield ((name,y)::r))else pure (ForInStep.yield r):Sem _)):Sem (List (Str×Addr)))=pure cl∧(∀x c,cl.lookup x=some c->env.cells.lookup x=some c)∧
    (∀x,((x,NameKind.free)∈l∨∃c,acc.lookup x=some c)->∃c,cl.lookup x=some c):=by
  intro l
  induction l with
  |nil=>intro acc _ h2;exact⟨acc,by rw[List.forIn_nil],h2,λ x hx=>hx.elim (λ q=>nomatch q) id⟩
  |cons p r ih=>
   obtain⟨y,k⟩:=p
   intro acc h1 h2
   rw[List.forIn_cons]
   by_cases hk:k=.free
   ·subst hk
    refine A0 (h1 y List.mem_cons_self) λ c hc=>?_
    have e:cellOf env y=pure c:=by unfold cellOf;rw[hc]
    obtain⟨cl,e1,e2,e3⟩:=ih ((y,c)::acc) (λ x hx=>h1 x (List.mem_cons_of_mem _ hx)) (λ x c' hx=>by
     rw[cJ]at hx
     by_cases q:x=y
     ·subst q;rw[F7 rfl]at hx;rw[<-hx];exact hc
     ·rw[G0 q]at hx;exact h2 x c' hx)
    refine⟨cl,?_,e2,λ x hx=>?_⟩
    ·show((if(NameKind.free==NameKind.free)=true then(cellOf env y>>=λ y'=>pure (ForInStep.yield ((y,y')::acc)))else pure (ForInStep.yield acc))>>=_)=_;rw[F7 (O2 _),e];exact e1
    ·refine e3 x ?_
     by_cases q:x=y
     ·subst q;exact .inr ⟨c,by rw[cJ,F7 rfl]⟩
     ·rcases hx with hx|⟨c',hx⟩
      ·rcases F8.mp hx with hx|hx
       ·injection hx with a b;exact absurd a q
       ·exact .inl hx
      ·exact .inr ⟨c',by rw[cJ,G0 q];exact hx⟩
   ·refine A0 (ih acc (λ x hx=>h1 x (List.mem_cons_of_mem _ hx)) h2) λ cl hZ=>?_;delta hZ e1 e2 e3
    have hb:(k==NameKind.free)=false:=by simpa using hk
    refine⟨cl,?_,e2,λ x hx=>e3 x ?_⟩
    ·show((if(k==NameKind.free)=true then(cellOf env y>>=λ y'=>pure (ForInStep.yield ((y,y')::acc)))else pure (ForInStep.yield acc))>>=_)=_;rw[G0 (by rw[hb];exact C5)];exact e1
    ·rcases hx with hx|hx
     ·rcases F8.mp hx with hx|hx
      ·injection hx with a b;exact absurd b.symm hk
      ·exact .inl hx
     ·exact .inr hx
 refine A0 (gen scope.names [] h (λ x c hx=>by simp at hx)) λ cl hZ=>?_;delta hZ e1 e2 e3
 refine⟨cl,?_,e2,λ x hx=>e3 x (.inl hx)⟩
 unfold closureFor
 simpa using e1
end
def uZ(env:Env)(n:Str)(k:NameKind):NameKind:=if(k==NameKind.free&&env.scope.kind==.function&&env.kindOf n==some .cell)=true then .cell else k
theorem eA{env:Env}{x:Str}:∀l:List (Str×NameKind),(l.map λ(n,k)=>if(k==NameKind.free&&env.scope.kind==.function&&env.kindOf n==some .cell)then(n,NameKind.cell)else(n,k)).lookup x=(l.lookup x).map (uZ env x)
 |[]=>rfl
 |(n,k)::r=>by
  have ih:=@eA env x r
  rw[I6,I1,I1]
  by_cases q:x=n
  ·subst q
   by_cases hc:(k==NameKind.free&&env.scope.kind==.function&&env.kindOf x==some .cell)=true
   ·simp only[hc,if_true,O2,fW];exact C7 some (F7 hc).symm
   ·simp only[G0 hc,O2,fW];exact C7 some (G0 hc).symm
  ·have:(x==n)=false:=by simpa using q
   by_cases hc:(k==NameKind.free&&env.scope.kind==.function&&env.kindOf n==some .cell)=true
   ·simp only[hc,if_true,this];exact ih
   ·simp only[G0 hc,this];exact ih
structure OJ(scope:Scope)(env:Env):Prop where
 kind:scope.kind=.function
 gen:scope.isGenerator=false
 Ij:scope.isCoroutine=false
 lf:∀x∈scope.names,x.2≠.cell∧scope.names.lookup x.1=some x.2
 fr:∀x:Str,(x,NameKind.free)∈scope.names->x≠"__class__"∧(env.kindOf x=some .cell∨env.kindOf x=some .free)
theorem mem_of_lookupK{x:Str}{k:NameKind}:∀{l:List (Str×NameKind)},l.lookup x=some k->(x,k)∈l
 |[],h=>by simp at h
 |(n,k')::r,h=>by
  rw[I1]at h
  by_cases q:x=n
  ·subst q;simp at h;subst h;exact List.mem_cons_self
  ·have:(x==n)=false:=by simpa using q
   rw[this]at h;exact List.mem_cons_of_mem _ (mem_of_lookupK h)
def zB(scope:Scope)(ns:List (Option Str)):List (Option Str):=ns.map λ o=>o.bind λ x=>if scope.names.lookup x=some .free then some x else none
theorem Fb{scope:Scope}{ns:List (Option Str)}{i:Nat}{x:Str}(h:(zB scope ns)[i]? =some (some x)):ns[i]? =some (some x)∧scope.names.lookup x=some .free:=by
 unfold zB at h
 rw[H9]at h
 cases e:ns[i]? with
 |none=>rw[e]at h;cases h
 |some o=>
  rw[e]at h
  cases o with
  |none=>cases h
  |some y=>
   simp only[fW,Option.bind_some,Option.some.injEq]at h
   split at h
   ·rename_i q;cases h;exact⟨rfl,q⟩
   ·cases h
section
variable{W:Wd}{n:Nat}{ns:List (Option Str)}{ρ:List PV}{env:Env}{A:Around}{s:Shared}{σ:PH}{E:Value->Shared->Prop}
theorem ZH{scope:Scope}{cl:List (Str×Addr)}{C:Addr}(sc:OJ scope env){x:Str}(h:scope.names.lookup x=some .free):(compEnvC scope cl C env).kindOf x=some .cell∨(compEnvC scope cl C env).kindOf x=some .free:=by
 have e:(compEnvC scope cl C env).kindOf x=(scope.names.lookup x).map (uZ env x):=eA _
 rw[e,h]
 simp only[fW,uZ]
 split
 ·exact .inl rfl
 ·exact .inr rfl
theorem TZ{scope:Scope}{cl:List (Str×Addr)}{C:Addr}{x:Str}(h:scope.names.lookup x=some .local):(compEnvC scope cl C env).kindOf x=some .local:=lookup_relabel_local h
theorem UA{scope:Scope}{cl:List (Str×Addr)}{C:Addr}(hE:U5 env)(sc:OJ scope env)(hc:∀x,(x,NameKind.free)∈scope.names->∃c,cl.lookup x=some c):U5 (compEnvC scope cl C env):=by
 refine⟨sc.kind,hE.glob,hE.blt,sc.gen,sc.Ij,λ x Qs hx=>?_⟩
 have:scope.names.lookup x=some .free:=by
  have e:(compEnvC scope cl C env).kindOf x=(scope.names.lookup x).map (uZ env x):=eA _
  rw[e]at hx
  cases q:scope.names.lookup x with
  |none=>rw[q]at hx;rcases hx with h|h<;>cases h
  |some k=>
   have nc:=(sc.lf _ (mem_of_lookupK q)).1
   rw[q]at hx
   cases k with
   |free=>rfl
   |cell=>exact absurd rfl nc
   |_=>simp[uZ]at hx
 refine A0 (hc x (mem_of_lookupK this)) λ c h=>?_
 exact⟨c,BW Qs h⟩
theorem FR.fJ{h h':Heap}{it:Addr}(F:FR W ns ρ env σ h)(hit:¬rK env it)(k:OT it h h')(m:nS h h'):FR W ns ρ env σ h':=by
 have cell:∀y c v,DJ env y=some c->h.IsCell c v->h'.IsCell c v:=λ y c v e ⟨o,ho,hd⟩=>⟨o,k c o (by clear k;rintro rfl;exact hit (.inr ⟨y,e⟩)) ho,hd⟩
 refine A0 (F.val) λ mm hZ=>?_;delta hZ hn hv
 intros hn o hZ;intros hZ es Q0;intros Q0 ep P4;delta P4 ho r
 refine⟨⟨mm,⟨o,es,ep,k _ o (by clear k;rintro rfl;exact hit (.inl rfl)) ho,r⟩,λ i y pv a b c=>?_⟩,λ y c e=>?_,F.inj,F.own,F.len,F.nd⟩
 ·refine A0 (hv i y pv a b c) λ v hZ=>?_;delta hZ r1 q
  exact⟨v,r1.V7 m,q.imp id λ⟨k',c',e,hc⟩=>⟨k',c',e,cell y c' _ e hc⟩⟩
 ·refine A0 (F.cells y c e) λ v hc=>?_;exact⟨v,cell y c v e hc⟩
def distinct(l:List (Option Str)):Prop:=∀(i j:Nat) (x:Str),l[i]? =some (some x)->l[j]? =some (some x)->i=j
theorem NQ{scope:Scope}{cl:List (Str×Addr)}{C:Addr}{h:Heap}{m:Str->Option Value}{tn:List Str}(hE:U5 env)(sc:OJ scope env)(F:FR W ns ρ env σ h)(hn:h.Ns C m)(hC:σ C=none)(Rg:W.h₀.get? C=none)
  (h1:∀x c,cl.lookup x=some c->env.cells.lookup x=some c)(h2:∀x,(x,NameKind.free)∈scope.names->∃c,cl.lookup x=some c)(nd:distinct (zB scope ns++tn.map some)):
  FR W (zB scope ns++tn.map some) (ρ++List.replicate tn.length .M7) (compEnvC scope cl C env) σ h:=by
 refine A0 (F.val) λ mm hZ=>?_;delta hZ b0 hv
 have Ug:∀x c,DJ (compEnvC scope cl C env) x=some c->DJ env x=some c:=λ x c e=>BW (NT e) (h1 x c (mI (env:=compEnvC scope cl C env) e))
 refine⟨⟨m,hn,λ i x pv a b c=>?_⟩,λ y c e=>F.cells y c (Ug y c e),λ x y c e1 e2=>F.inj x y c (Ug _ _ e1) (Ug _ _ e2),λ b hb=>?_,by simp[zB,F.len],nd⟩
 ·by_cases hi:i<ns.length
  ·have XQ:i<ρ.length:=by rw[F.len];exact hi
   rw[I4 (by simpa[zB]using hi)]at a
   rw[I4 XQ]at b
   have hZ:=Fb a;delta hZ a1 a2
   refine A0 (hv i x pv a1 b c) λ v hZ=>?_;delta hZ r q
   refine⟨v,r,.inr ⟨ZH sc a2,?_⟩⟩
   have mem:=mem_of_lookupK a2
   refine A0 (h2 x mem) λ c₁ Hz=>?_
   clear a a1 a2 h2 hE hn b0 hv m nd r tn;rcases q with⟨kl,_⟩|⟨_,c₂,QQ,QR⟩
   ·rcases (sc.fr x mem).2 with k|k<;>(rw[kl]at k;cases k)
   ·have:=h1 x c₁ Hz
    rw[mI QQ]at this;clear h1 QQ mm;cases this
    exact⟨_,BW (env:=compEnvC scope cl C env) (sc.fr x mem).1 Hz,QR⟩
  ·have XQ:ρ.length<=i:=by rw[F.len];lia
   rw[N2 XQ]at b
   rw[gL]at b
   split at b
   ·cases b;exact absurd rfl c
   ·cases b
 ·clear h1 h2 hE hn b0 hv m mm nd sc tn;rcases hb with rfl|⟨x,e⟩
  ·exact⟨hC,Rg⟩
  ·exact F.own b (.inr ⟨x,Ug x b e⟩)
theorem CT:∀(ys prev ρ:List PV),prev.length=ys.length->aN ((List.range ys.length).map (ρ.length+·)) ys (ρ++prev)=ρ++ys:=by
 intro ys
 induction ys with
 |nil=>intro prev ρ h;cases prev with|nil=>rfl|cons=>simp at h
 |cons y r ih=>
  intro prev ρ h
  cases prev with
  |nil=>simp at h
  |cons p q=>
   rw[H5,aF,I6,G2]
   show aN (List.map _ _) r ((ρ++p::q).set (ρ.length+0) y)=_
   have e:(ρ++p::q).set (ρ.length+0) y=(ρ++[y])++q:=by
    rw[Nat.add_zero,List.set_append_right _ _ (D7 _)];simp
   rw[e]
   have:=ih q (ρ++[y]) (by simpa using h)
   rw[show((λ x=>ρ.length+x)∘Nat.succ)=(λ x=>(ρ++[y]).length+x)from by funext x;simp[Nat.succ_eq_add_one];lia]
   rw[this];simp
end
def yJ(W:Wd)(n:Nat)(ns:List (Option Str))(env:Env)(ifs:List Expr)(f:T Bool):Prop:=
 ∀A s ρ σ (Q:Bool->PH->Prop),Rm n A->SR W σ s.heap->FR W ns ρ env σ s.heap->f ρ σ Q->
  wpAny W.M A (forIn ifs true λ c r=>if r=true then do let ok <-isTrue c env (eval c env);pure (ForInStep.yield ok)else pure (ForInStep.yield r)) (λ b s'=>∃B9,Q b B9∧SR W B9 s'.heap∧kB σ s.heap B9 s'.heap∧Sm s s') (λ _ _=>False) s
structure KW(W:Wd)(yQ:List (Option Str))(cV:Env)(ρ:List PV)(tn:Nat)(B4:PH)(I2:Shared)(D:Addr)(acc:List PV)(σ:PH)(s:Shared):Prop where
 sr:SR W σ s.heap
 fr:∃prev:List PV,prev.length=tn∧FR W yQ (ρ++prev) cV σ s.heap
 ls:∃vs k,s.heap.get? D=some ⟨.type "list",none,.seq vs.toArray k,#[]⟩∧bO s.heap acc vs
 dn:σ D=none
 eM:kB B4 I2.heap σ s.heap
 sm:Sm I2 s
section
variable{W:Wd}{n:Nat}{ns yQ:List (Option Str)}{ρ:List PV}{env cV:Env}{A:Around}{s I2:Shared}{σ B4:PH}{E:Value->Shared->Prop}{tn:Nat}{D it:Addr}{acc:List PV}
theorem YQ:yJ W n ns env [] (λ _ σ Q=>Q true σ):=λ A s ρ σ Q _ S _ q=>wpAny_tests_nil ⟨σ,q,S,.refl _ _,.refl _⟩
theorem JX{c:Expr}{f:T Bool}(h:FP W n ns env c f):yJ W n ns env [c] f:=λ A s ρ σ Q rm S F q=>wpAny_tests_one (h A s ρ σ Q rm S F q)
theorem KW.step{B9:PH}{s':Shared}(x:KW W yQ cV ρ tn B4 I2 D acc σ s)(S:SR W B9 s'.heap)(t:kB σ s.heap B9 s'.heap)(m:Sm s s'):KW W yQ cV ρ tn B4 I2 D acc B9 s':=by
 refine A0 (x.fr) λ prev hZ=>?_;delta hZ hl F
 refine ee2.e (x.ls) λ vs k hZ=>?_;delta hZ e r
 have p:=t.bN D _ e x.dn
 exact⟨S,⟨prev,hl,F.eM x.sr t⟩,⟨vs,k,p.1,r.V7 (t.V7 x.sr)⟩,p.2,x.eM.trans t,x.sm.trans m⟩
theorem KW.Gv{h':Heap}{tk:Tok}(x:KW W yQ cV ρ tn B4 I2 D acc σ s)(S:SR W σ h')(hn:I2.heap.get? it=none)(hD:D≠it)(ho:¬rK cV it)(k:OT it s.heap h')(m:nS s.heap h'):
  KW W yQ cV ρ tn B4 I2 D acc σ {s with heap:=h',toks:=tk}:=by
 refine A0 (x.fr) λ prev hZ=>?_;delta hZ hl F
 refine ee2.e (x.ls) λ vs j hZ=>?_;delta hZ e r
 refine⟨S,⟨prev,hl,F.fJ ho k m⟩,⟨vs,j,k D _ hD e,r.V7 m⟩,x.dn,⟨λ b o e' q=>?_,x.eM.ID⟩,x.sm.trans (.mk' _ _ _)⟩
 have:=x.eM.bN b o e' q
 exact⟨k b o (by clear ho k hD;rintro rfl;rw[hn]at e';cases e') this.1,this.2⟩
theorem KW.asg{h':Heap}{tk:Tok}{ys:List PV}(x:KW W yQ cV ρ tn B4 I2 D acc σ s)(S:SR W σ h')(hn:I2.heap.get? cV.locals=none)(hD:D≠cV.locals)(t:fV (KY cV true) σ s.heap σ h')(m:nS s.heap h')
  (hy:ys.length=tn)(F':FR W yQ (ρ++ys) cV σ h'):KW W yQ cV ρ tn B4 I2 D acc σ {s with heap:=h',toks:=tk}:=by
 refine A0 (x.fr) λ prev hZ=>?_;delta hZ hl F
 refine ee2.e (x.ls) λ vs j hZ=>?_;delta hZ e r
 have nt:∀b,b≠cV.locals->¬KY cV true b:=λ b hb q=>by rcases q with q|q;exact hb q;cases q.1
 refine⟨S,⟨ys,hy,F'⟩,⟨vs,j,(t.bN D _ e x.dn (nt D hD)).1,r.V7 m⟩,x.dn,⟨λ b o e' q=>?_,x.eM.ID⟩,x.sm.trans (.mk' _ _ _)⟩
 have:=x.eM.bN b o e' q
 exact t.bN b o this.1 this.2 (nt b (by clear q;rintro rfl;rw[hn]at e';cases e'))
theorem KW.app{h':Heap}{y:PV}{v:Value}(x:KW W yQ cV ρ tn B4 I2 D acc σ s)(hn:I2.heap.get? D=none)(hb:W.h₀.get? D=none)(ho:¬rK cV D){vs:List Value}{k:Nat}(e:s.heap.get? D=some ⟨.type "list",none,.seq vs.toArray k,#[]⟩)(r:bO s.heap acc vs)(ry:VR s.heap y v)
  (e':h'.PlainList D (vs.toArray.push v))(sb:Heap.SameBut D s.heap h'):KW W yQ cV ρ tn B4 I2 D (acc++[y]) σ {s with heap:=h'}:=by
 refine A0 (x.fr) λ prev hZ=>?_;delta hZ hl F
 intros e' k' e'
 have q:=x.sr.fJ x.dn hb e rfl (SameBut.fJ sb)
 refine⟨q.1,⟨prev,hl,F.fJ ho (SameBut.fJ sb) q.2⟩,⟨vs++[v],k',?_,(r.V7 q.2).append (.cons (ry.V7 q.2) .nil)⟩,x.dn,⟨λ b o e2 q=>?_,x.eM.ID⟩,x.sm.trans ⟨h',s.toks,rfl⟩⟩
 ·show h'.get? D=_
  rw[e'];simp
 ·have:=x.eM.bN b o e2 q
  exact⟨(sb.2 b (by clear e' x e hb sb ho;rintro rfl;rw[hn]at e2;cases e2)).trans this.1,this.2⟩
theorem UN{k:Nat}{pv:PV}{ys:List PV}{m:Nat}(hk:(And (k=0) (m=1))∨(And (k=m) (0<k)))(h:eH k pv=some ys):ys.length=m:=by
 cases k with
 |zero=>cases h;rcases hk with h|h<;>simp at h ⊢;exact h.symm
 |succ k=>
  cases pv<;>simp only[eH,reduceCtorEq]at h
  split at h
  ·rename_i q;cases h;rcases hk with h|h
   ·simp at h
   ·exact q.trans h.1
  ·cases h
theorem TY{t elt iter:Expr}{ifs:List Expr}{scope:Scope}{pos:Pos}{k:Nat}{fc:T Bool}{fe:T PV}{R:Result->Shared->Prop}{iv:PV}{Qf:List PV->PH->Prop}
  (hE:U5 cV)(rm:Rm n A)(hk:(And (k=0) (tn=1))∨(And (k=tn) (0<k)))(tg:Tg yQ cV true t k ((List.range tn).map (ρ.length+·)))
  (hc:yJ W n yQ cV ifs fc)(he:Ev W n yQ cV elt fe)
  (nD:I2.heap.get? D=none)(nI:I2.heap.get? it=none)(nC:I2.heap.get? cV.locals=none)(bD:W.h₀.get? D=none)(bI:W.h₀.get? it=none)(DI:D≠it)(oD:¬rK cV D)(oI:¬rK cV it)
  (fin:∀B9 acc s',KW W yQ cV ρ tn B4 I2 D acc B9 s'->acc.length<=2^24->Qf acc B9->R (.ok .next) s')
  (l:List PV)(acc:List PV)(σ:PH)(s:Shared)(hz:acc.length+l.length<=2^24)(x:KW W yQ cV ρ tn B4 I2 D acc σ s)(st:M9 B4 iv σ)(nT:σ it=none)(ir:rW W σ s.heap it iv l)
  (h:pD (M9 B4 iv) (λ x σ R=>∃ys,eH k x=some ys∧fc (ρ++ys) σ λ b B9=>match b with
    |true=>fe (ρ++ys) B9 λ y S7=>R (some y) S7
    |false=>R .none B9) l acc σ Qf):
  codeAny W.M A (.compLoop (.ListComp elt [⟨t,iter,ifs,0⟩] scope pos) 0 (.ref it) (.ref D) cV) R s:=by
 refine HK (λ m s=>∃l acc σ,m=l.length∧acc.length+l.length<=2^24∧KW W yQ cV ρ tn B4 I2 D acc σ s∧M9 B4 iv σ∧σ it=none∧rW W σ s.heap it iv l∧
  pD (M9 B4 iv) (λ x σ R=>∃ys,eH k x=some ys∧fc (ρ++ys) σ λ b B9=>match b with
    |true=>fe (ρ++ys) B9 λ y S7=>R (some y) S7
    |false=>R .none B9) l acc σ Qf) ?_ l.length ⟨l,acc,σ,rfl,hz,x,st,nT,ir,h⟩
 intro m s hQ;intros hQ l acc σ hZ;clear iter pos scope;obtain rfl:=hZ.1;delta hZ hZ hz x st nT ir h
 have hD:D≠cV.locals:=λ e=>oD (.inl e)
 refine A0 (ir.has) λ oi hZ=>?_;delta hZ ei ni
 refine ir.next rm x.sr nT bI (λ y r hl u h' tk ru Hs S' k'=>?_) λ hl h' tk S' k'=>?_
 ·clear ir;subst hl
  have m1:nS s.heap h':=(x.sr.fJ nT bI ei ni k').2
  have x1:KW W yQ cV ρ tn B4 I2 D acc σ {s with heap:=h',toks:=tk}:=x.Gv S' nI DI oI k' m1
  intros h ys hZ;delta hZ hb hf
  have hy:=UN hk hb
  refine JP (σ:=σ) tg Hs ?_
  refine A0 (x1.fr) λ prev hZ=>?_;delta hZ hp F1
  refine pH (s:={s with heap:=h',toks:=tk}) hE tg rm S' F1 ru hb λ h2 Pc S2 F2 t2=>?_
  rw[<-hy,CT ys prev ρ (hp.trans hy.symm)]at F2
  have m2:=t2.V7 S' F1 λ _=>KY.own
  have x2:KW W yQ cV ρ tn B4 I2 D acc σ {s with heap:=h2,toks:=Pc}:=x1.asg S2 nC hD t2 m2 hy F2
  have QH:∀o,h'.get? it=some o->h2.get? it=some o:=λ o e=>(t2.bN it o e nT λ q=>oI q.own).1
  have pI:∀B9 (s':Shared),kB σ h2 B9 s'.heap->M9 B4 iv B9->B9 it=none∧rW W B9 s'.heap it iv r:=λ B9 s' t w=>⟨let⟨o,ho,_⟩:=Hs.has;(t.bN it o (QH o ho) nT).2,Hs.of (m2.trans (t.V7 S2)) (λ o e=>(t.bN it o (QH o e) nT).1) (st.back w)⟩
  refine I7 (hc A _ _ _ _ rm S2 F2 hf) (λ b s3 bf=>?_) λ _ _ e=>e
  intros bf Y8 hZ;delta hZ q3 S3 t3 m3
  have x3:=x2.step S3 t3 m3
  have F3:=F2.eM S2 t3
  have z1:acc.length+r.length<2^24:=hz
  clear F1 F2 S2 hD hE hb hc hf hk hp hy ifs ir Hs QH m2 m3 nC prev ru st t2 tg u x1 x2;cases b with
  |false=>
   have hZ:=pI Y8 s3 t3 q3.1;delta hZ i1 i2
   exact(G0 C5).mpr ⟨r.length,K5 _,r,acc,Y8,rfl,M8 z1,x3,q3.1,i1,i2,q3.2⟩
  |true=>
   refine(F7 rfl).mpr (I7 (he A _ _ _ _ rm S3 F3 q3) (λ v s4 h4=>?_) λ _ _ e=>e)
   intros h4 y' bK hZ;generalize hZ.1=P4;delta P4 w4 q4;delta hZ hZ r4 S4 t4 m4
   have x4:=x3.step S4 t4 m4
   refine ee2.e (x4.ls) λ vs kk hZ=>?_;delta hZ e4 Zh
   refine wpAny_list_append_plain ⟨kk,e4⟩ (λ h5 e5 Vn=>?_) (by rw[H0,Zh.length,K0];exact A9 (M8 (H8 (J6 _ _) z1)) (show 2^24<=_ by decide))
   have hZ:=pI bK s4 (t3.trans t4) w4;delta hZ i1 i2
   exact⟨r.length,K5 _,r,acc++[y'],bK,rfl,by rw[B0];exact Nat.succ_add .. ▸z1,x4.app nD bD oD e4 Zh r4 e5 Vn,w4,i1,i2.of (S4.fJ x4.dn bD e4 rfl (SameBut.fJ Vn)).2 (λ o e=>(Vn.2 it (gZ DI)).trans e) (.here _ _),q4⟩
 ·clear bD hD hE hc he hk ir nC nD oD rm st tg;subst hl
  have m1:nS s.heap h':=(x.sr.fJ nT bI ei ni k').2
  exact fin σ acc _ (x.Gv S' nI DI oI k' m1) (by simpa using hz) h
end
structure Nj(W:Wd)(σ:PH)(s:Shared)(C:Addr)(B9:PH)(s':Shared):Prop where
 ns:∃m,s'.heap.Ns C m
 sr:SR W B9 s'.heap
 eM:kB σ s.heap B9 s'.heap
 sm:Sm s s'
 cn:B9 C=none
 cb:W.h₀.get? C=none
 cs:s.heap.get? C=none
section
variable{W:Wd}{n:Nat}{ns yQ:List (Option Str)}{ρ:List PV}{env cV:Env}{A:Around}{s I2:Shared}{σ B4:PH}{E:Value->Shared->Prop}{tn:Nat}{D it:Addr}{acc:List PV}
theorem Nj.letGo{C:Addr}{B9:PH}{s':Shared}{h':Heap}(x:Nj W σ s C B9 s')(sb:Heap.SameBut C s'.heap h'):SR W B9 h'∧kB σ s.heap B9 h'∧Sm s {s' with heap:=h'}:=by
 refine A0 (x.ns) λ m hZ=>?_;intros hZ o Q0;intros Q0 es P4;intros P4 ep fT;generalize fT.1=ho;generalize fT.2=nR;delta nR hd;try clear fT
 have q:=x.sr.fJ x.cn x.cb ho (by simp[cU,hd]) (SameBut.fJ sb)
 refine⟨q.1,⟨λ b o e n=>?_,x.eM.ID⟩,x.sm.trans ⟨h',s'.toks,rfl⟩⟩
 have:=x.eM.bN b o e n
 exact⟨(sb.2 b (by clear ho sb;rintro rfl;rw[x.cs]at e;cases e)).trans this.1,this.2⟩
theorem SR.adopt{h:Heap}{a:Addr}{o:PO}{ob:Obj}(S:SR W σ h)(e:h.get? a=some ob)(r:OR W h o ob)(hb:W.h₀.get? a=none):SR W (σ.set a o) h:=by
 refine⟨λ b po e'=>?_,S.keep,λ b n=>?_⟩
 ·by_cases q:b=a
  ·clear hb;subst q;rw[PH.J7]at e';cases e';exact⟨ob,e,r⟩
  ·rw[PH.U0 _ _ q]at e';exact S.obj b po e'
 ·by_cases q:b=a
  ·clear n e;subst q;exact hb
  ·rw[PH.U0 _ _ q]at n;exact S.new b n
theorem FH{t elt iter:Expr}{ifs:List Expr}{scope:Scope}{pos p0:Pos}{k:Nat}{wO:List Str}{fi:T PV}{fc:T Bool}{fe:T PV}{Q:PV->PH->Prop}{use:Option (Value->Sem Unit)}{Q':Value->Shared->Prop}
  (hW:W.Ok)(hE:U5 env)(sc:OJ scope env)(rm:Rm n A)(S:SR W σ s.heap)(F:FR W ns ρ env σ s.heap)(hk:(And (k=0) (wO.length=1))∨(And (k=wO.length) (0<k)))
  (nd:distinct (zB scope ns++wO.map some))
  (Be:∀cl C,Tg (zB scope ns++wO.map some) (compEnvC scope cl C env) true t k ((List.range wO.length).map (ns.length+·)))
  (hi:Ev W n ns env iter fi)
  (hc:∀cl C,U5 (compEnvC scope cl C env)->yJ W n (zB scope ns++wO.map some) (compEnvC scope cl C env) ifs fc)
  (he:∀cl C,U5 (compEnvC scope cl C env)->Ev W n (zB scope ns++wO.map some) (compEnvC scope cl C env) elt fe)
  (hs:∀x,foldedSetIterable iter env x=pure x)
  (h:fi ρ σ λ iv B4=>∃xs,mB B4 iv xs∧pD (M9 B4 iv) (λ x σ R=>∃ys,eH k x=some ys∧fc (ρ++ys) σ λ b B9=>match b with
    |true=>fe (ρ++ys) B9 λ y S7=>R (some y) S7
    |false=>R .none B9) xs [] B4 λ ys H6=>∀c,H6 c=none->Q (.ref c) (H6.set c (.list ys)))
  (fin:∀D C B9 s',Nj W σ s C B9 s'->Q (.ref D) B9->FR W ns ρ env B9 s'.heap->compPost W.M A E use Q' (.ref D) C (.ok .next) s'):
  wpAny W.M A (comprehension (.ListComp elt [⟨t,iter,ifs,0⟩] scope pos) scope env p0 (newList []) false (eval iter env) use) Q' E s:=by
 refine A0 (Sa (scope:=scope) (env:=env) λ x hx=>(hE.cls x (sc.fr x hx).1 (sc.fr x hx).2).imp λ _=>mI) λ cl hZ=>?_;delta hZ e1 e2 e3
 refine wpAny_comprehension_free rfl hs e1 sc.kind (λ x hx hl=>by have:=(sc.lf x hx).2;rw[hl]at this;exact this) ?_
 refine I7 (hi A s ρ σ _ rm S F h) (λ xv I2 mF=>?_) λ _ _ x=>x.elim
 intros mF iv B4 hZ;refine A0 hZ.1 λ xs P4=>?_;delta P4 hit XT;delta hZ hZ Y0 N5 VK m₁
 have U4:=F.eM S VK
 refine QK hW N5 Y0 hit λ I iM nT bI nI ir k₂=>?_
 refine aJ (wpAny_newFunctionEnv (λ x hx q=>?_) (by intro y hy;simp at hy) (λ uA jU rQ=>?_) sc.kind)
 ·exact(sc.lf x hx).1 q
 dsimp only at jU rQ ⊢
 generalize hH:iM.push {cls:=.type "list",dict:=none,data:=.seq ([]:List Value).toArray}=H at jU rQ ⊢
 have hC:H.objs.size=iM.objs.size+1:=by rw[<-hH,Heap.size_push]
 have Nm:iM.get? iM.objs.size=none:=W7 (D7 _)
 have Hk:iM.get? H.objs.size=none:=W7 (by rw[hC];exact cN _)
 have tT:∀a,iM.get? a=none->I2.heap.get? a=none:=λ a e=>by
  clear S e1 h hW hi hs p0 Y0 xv;clear XT hit ir bI nI nT;cases q:I2.heap.get? a with
  |none=>rfl
  |some o=>rw[k₂ a o q]at e;cases e
 have DC:iM.objs.size≠H.objs.size:=by rw[hC];exact U6 (K5 _)
 have kk:∀b o,iM.get? b=some o->uA.get? b=some o:=λ b o e=>rQ.extBut b o (by clear S e1 h hC hW hi hs p0 Y0 xv;clear XT hit ir bI nI nT;rintro rfl;rw[Hk]at e;cases e) (Q4 _ (hH▸Q4 _ e))
 have k3:∀b o,I2.heap.get? b=some o->uA.get? b=some o:=λ b o e=>kk b o (k₂ b o e)
 have nD:=tT _ Nm
 have nC:=tT _ Hk
 have sD:=N5.fresh nD
 have sC:=N5.fresh nC
 have bD:=N5.fK nD
 have bC:=N5.fK nC
 have eJ:SR W B4 uA:=N5.keeps k3
 have IM:kB B4 I2.heap B4 uA:=.keeps k3
 have rX:=U4.eM N5 IM
 have FC:=NQ hE sc rX jU sC bC e2 e3 nd
 have Nx:U5 (compEnvC scope cl H.objs.size env):=UA hE sc e3
 have FI:∀a,I2.heap.get? a=none->a≠H.objs.size->¬rK (compEnvC scope cl H.objs.size env) a:=λ a e ne q=>by
  clear rX S e1 e3 h hC hE hW hi jU hs k3 nd tT p0 Y0 sC sc xv;clear XT hit ir bI nI nT;rcases q with q|⟨x,hx⟩
  ·exact ne q
  ·refine A0 (U4.cells x a (BW (NT hx) (e2 x a (mI (env:=compEnvC scope cl H.objs.size env) hx)))) λ v hZ=>?_;intros hZ o Q0;delta Q0 ho
   rw[e]at ho;cases ho
 have oD:=FI _ nD DC
 refine A0 (ir.has) λ oi hZ=>?_;delta hZ ei
 have IC:I≠H.objs.size:=by clear rX S e1 e2 e3 h hC hE hW hi jU hs k3 nd tT p0 Y0 sC sc xv;clear XT hit ir bI nI nT;rintro rfl;rw[Hk]at ei;cases ei
 have DI:iM.objs.size≠I:=by clear rX S e1 e2 e3 h hC hE hW hi jU hs k3 Hk nd tT p0 Y0 sC sc xv;clear XT hit ir bI nI nT IC;rintro rfl;rw[Nm]at ei;cases ei
 have oI:=FI _ nI IC
 have ET:rW W B4 uA I iv xs:=ir.eM (N5.keeps k₂) nT (.keeps kk) (by clear rX IC S FI e1 e2 e3 ei h hC hE hW hi jU hs ir k3 kk k₂ Hk Nm nd tT oi p0 Y0 sC sc xv;clear XT hit bI nI nT;cases iv<;>first|trivial|rfl)
 have Uf:uA.get? iM.objs.size=some ⟨.type "list",none,.seq ([]:List Value).toArray 0,#[]⟩:=by
  refine rQ.extBut _ _ DC (Q4 _ ?_)
  rw[<-hH];exact N6 _ rfl
 have Pd:=Be cl H.objs.size
 rw[<-F.len]at Pd
 have loop:∀aU:Shared,aU={I2 with heap:=uA,toks:=I2.toks+([]:List (Str×Value)).length}->
   codeAny W.M A (.compLoop (.ListComp elt [⟨t,iter,ifs,0⟩] scope pos) 0 (.ref I) (.ref iM.objs.size) (compEnvC scope cl H.objs.size env)) (compPost W.M A E use Q' (.ref iM.objs.size) H.objs.size) aU:=by
  rintro aU rfl
  refine TY (I2:=I2) (B4:=B4) (iv:=iv) (tn:=wO.length) (fc:=fc) (fe:=fe) (Qf:=λ ys H6=>∀c,H6 c=none->Q (.ref c) (H6.set c (.list ys))) Nx rm hk Pd (hc cl _ Nx) (he cl _ Nx) nD nI nC bD bI DI oD oI ?_ xs [] B4 _ (by simpa using hit.2)
   ⟨eJ,⟨_,by simp,FC⟩,⟨[],0,Uf,.nil⟩,sD,IM,⟨uA,_,rfl⟩⟩ (by clear DI F FC rX IC S eJ bI FI e1 e2 e3 ei h hC Uf hE Nx hW hc he hi hit hk jU hs rQ Be ifs ir iter k3 kk k₂ Hk Nm nI nd tT oD oI oi p0 pos rm Y0 sC sD sc IM Pd wO xv;clear XT ET nT;cases iv<;>first|trivial|rfl) nT ET XT
  intro B9 acc s' x hz hq
  refine A0 (x.fr) λ prev hZ=>?_;delta hZ hZ Fe
  refine ee2.e (x.ls) λ vs kq hZ=>?_;delta hZ eD rD
  refine A0 (Fe.val) λ mC hZ=>?_;delta hZ z9
  have Sx:=x.sr.adopt (o:=.list acc) eD (.list rD (by omega)) bD
  have tx:kB B4 I2.heap (B9.set iM.objs.size (.list acc)) s'.heap:=by
   refine⟨λ b o e q=>?_,λ b q=>?_⟩
   ·have:=x.eM.bN b o e q
    exact⟨this.1,by rw[PH.U0 _ _ (by clear DI F FC rX IC S eJ bD bI FI e1 e2 e3 eD ei h hC Uf hE Nx hW hc XT he hi hit hk jU hs rQ Be hz ifs ir iter nT k3 kk kq k₂ Hk Nm nI nd tT oD oI oi p0 pos rD rm Y0 sC sD sc IM Pd vs xv;clear ET q;rintro rfl;rw[nD]at e;cases e)];exact this.2⟩
   ·by_cases w:b=iM.objs.size
    ·clear XT ET hit ir bI nI nT q IC;subst w;rw[PH.J7];simp
    ·rw[PH.U0 _ _ w];exact x.eM.ID b q
  have Cn:(B9.set iM.objs.size (.list acc)) H.objs.size=none:=by
   rw[PH.U0 _ _ (gZ DC)];exact(Fe.own _ (.inl rfl)).1
  have r9:s.heap.get? H.objs.size=none:=by
   clear DC DI F FC Fe rX IC S eJ bD bI FI e1 e2 e3 eD ei h hC Uf hE Nx hW hc XT he hi hit hk jU hs rQ Be hz ifs ir iter nT k3 kk kq k₂ Hk nD Nm nI nd tT oD oI oi p0 pos prev rD rm Y0 sC sD sc IM Pd vs xv;clear ET;cases q:s.heap.get? H.objs.size with
   |none=>rfl
   |some o=>
    cases w:σ H.objs.size with
    |none=>rw[(VK.bN _ o q w).1]at nC;cases nC
    |some po=>exact absurd (N5.fresh nC) (VK.ID _ (by rw[w];simp))
  exact fin _ _ _ s' ⟨⟨mC,z9⟩,Sx,VK.trans tx,m₁.trans x.sm,Cn,bC,r9⟩ (hq _ x.dn) (U4.eM N5 tx)
 exact codeAny_compStart_list (loop _ rfl) (TE (s:={I2 with heap:=uA,toks:=_}) ET (loop _ rfl))
theorem RC{t elt iter:Expr}{ifs:List Expr}{scope:Scope}{pos:Pos}{k:Nat}{wO:List Str}{fi:T PV}{fc:T Bool}{fe:T PV}
  (hW:W.Ok)(hE:U5 env)(sc:OJ scope env)(hk:(And (k=0) (wO.length=1))∨(And (k=wO.length) (0<k)))
  (nd:distinct (zB scope ns++wO.map some))
  (Be:∀cl C,Tg (zB scope ns++wO.map some) (compEnvC scope cl C env) true t k ((List.range wO.length).map (ns.length+·)))
  (hi:Ev W n ns env iter fi)
  (hc:∀cl C,U5 (compEnvC scope cl C env)->yJ W n (zB scope ns++wO.map some) (compEnvC scope cl C env) ifs fc)
  (he:∀cl C,U5 (compEnvC scope cl C env)->Ev W n (zB scope ns++wO.map some) (compEnvC scope cl C env) elt fe)
  (hs:∀x,foldedSetIterable iter env x=pure x):
  Ev W n ns env (.ListComp elt [⟨t,iter,ifs,0⟩] scope pos) (λ ρ σ Q=>fi ρ σ λ iv B4=>∃xs,mB B4 iv xs∧pD (M9 B4 iv) (λ x σ R=>∃ys,eH k x=some ys∧fc (ρ++ys) σ λ b B9=>match b with
    |true=>fe (ρ++ys) B9 λ y S7=>R (some y) S7
    |false=>R .none B9) xs [] B4 λ ys H6=>∀c,H6 c=none->Q (.ref c) (H6.set c (.list ys))):=λ A s ρ σ Q rm S F h=>by
 rw[eval_ListComp]
 refine FH (Q:=Q) hW hE sc rm S F hk nd Be hi hc he hs h λ D C B9 s' x q _=>?_
 refine A0 (x.ns) λ m hm=>?_
 refine⟨m,hm,λ h' sb=>?_⟩
 have hZ:=x.letGo sb;delta hZ a b c
 exact⟨.ref D,B9,q,.ref D,a,b,c⟩
end
inductive Of(h:Heap):Fl->Flow->Prop
 |next:Of h .next .next
 |brk:Of h .brk .brk
 |cont:Of h .cont .cont
 |ret {pv:PV} {v:Value}:VR h pv v->Of h (.ret pv) (.ret v)
def CN(W:Wd)(ns:List (Option Str))(env:Env)(σ:PH)(s:Shared)(Q:Fl->List PV->PH->Prop):Flow->Shared->Prop:=λ f s'=>
 ∃fl O5 B9,Q fl O5 B9∧Of s'.heap fl f∧SR W B9 s'.heap∧FR W ns O5 env B9 s'.heap∧HZ env σ s.heap B9 s'.heap∧Sm s s'
def Ex(W:Wd)(n:Nat)(ns:List (Option Str))(env:Env)(st:Stmt)(f:TS):Prop:=
 ∀A s ρ σ Q,Rm n A->SR W σ s.heap->FR W ns ρ env σ s.heap->f ρ σ Q->wpAny W.M A (exec st env) (CN W ns env σ s Q) (λ _ _=>False) s
def UT(W:Wd)(n:Nat)(ns:List (Option Str))(env:Env)(b:List Stmt)(f:TS):Prop:=
 ∀A s ρ σ Q,Rm n A->SR W σ s.heap->FR W ns ρ env σ s.heap->f ρ σ Q->wpAny W.M A (execs b env) (CN W ns env σ s Q) (λ _ _=>False) s
section
variable{W:Wd}{n:Nat}{ns:List (Option Str)}{ρ:List PV}{env:Env}{A:Around}{s I2:Shared}{σ B4:PH}{Q:Fl->List PV->PH->Prop}
theorem CN.step(x:HZ env σ s.heap B4 I2.heap)(m:Sm s I2){f:Flow}{s':Shared}(p:CN W ns env B4 I2 Q f s'):CN W ns env σ s Q f s':=
 let⟨fl,O5,B9,a,b,c,d,e,g⟩:=p;⟨fl,O5,B9,a,b,c,d,x.trans e,m.trans g⟩
theorem Dr:UT W n ns env [] (λ ρ σ Q=>Q .next ρ σ):=λ A s ρ σ Q _ S F q=>wpAny_execs_nil ⟨_,_,_,q,.next,S,F,.refl _ _ _,.refl _⟩
theorem YI{st:Stmt}{r:List Stmt}{f g:TS}(h1:Ex W n ns env st f)(h2:UT W n ns env r g):UT W n ns env (st::r) (λ ρ σ Q=>f ρ σ λ fl O5 B9=>match fl with
  |.next=>g O5 B9 Q
  |.brk=>Q .brk O5 B9
  |.cont=>Q .cont O5 B9
  |.ret v=>Q (.ret v) O5 B9):=λ A s ρ σ Q rm S F h=>by
 refine wpAny_execs_cons (I7 (h1 A s ρ σ _ rm S F h) (λ f s' p=>?_) λ _ _ e=>e)
 intros p fl O5 B9 hZ;delta hZ q r S' F' x m
 cases r with
 |next=>exact I7 (h2 A s' O5 B9 Q rm S' F' q) (λ _ _ p=>p.step x m) λ _ _ e=>e
 |brk=>exact⟨_,_,_,q,.brk,S',F',x,m⟩
 |cont=>exact⟨_,_,_,q,.cont,S',F',x,m⟩
 |ret r=>exact⟨_,_,_,q,.ret r,S',F',x,m⟩
theorem Du{p:Pos}:Ex W n ns env (.Pass p) (λ ρ σ Q=>Q .next ρ σ):=λ A s ρ σ Q _ S F q=>wpAny_Pass ⟨_,_,_,q,.next,S,F,.refl _ _ _,.refl _⟩
theorem Dx{p:Pos}:Ex W n ns env (.Continue p) (λ ρ σ Q=>Q .cont ρ σ):=λ A s ρ σ Q _ S F q=>wpAny_Continue ⟨_,_,_,q,.cont,S,F,.refl _ _ _,.refl _⟩
theorem Ds{p:Pos}:Ex W n ns env (.Return none p) (λ ρ σ Q=>Q (.ret .none) ρ σ):=λ A s ρ σ Q _ S F q=>wpAny_Return_none ⟨_,_,_,q,.ret .none,S,F,.refl _ _ _,.refl _⟩
theorem Lr{e:Expr}{p:Pos}{f:T PV}(he:Ev W n ns env e f):Ex W n ns env (.Return (some e) p) (λ ρ σ Q=>f ρ σ λ x B4=>Q (.ret x) ρ B4):=λ A s ρ σ Q rm S F h=>
 wpAny_Return_some (he.bind rm S F h λ v I2 pv B4 q r N5 U4 x m=>⟨_,_,_,q,.ret r,N5,U4,.of x,m⟩)
theorem QC(hE:U5 env):interactive env=false:=by
 unfold interactive;rw[hE.kind];rfl
theorem Dw{e:Expr}{p:Pos}{f:T PV}(hE:U5 env)(hs:swapsWith e none p.line env=pure false)(he:Ev W n ns env e f):Ex W n ns env (.Expr e p) (λ ρ σ Q=>f ρ σ λ _ B4=>Q .next ρ B4):=λ A s ρ σ Q rm S F h=>
 wpAny_Expr_any (he.bind rm S F h λ v I2 pv B4 q r N5 U4 x m=>⟨_,_,_,q,.next,N5,U4,.of x,m⟩) (QC hE) hs
theorem YM{e:Expr}{p p':Pos}{x:Str}{i:Nat}{f:T PV}(hE:U5 env)(hi:ns[i]? =some (some x))(hk:env.kindOf x=some .local∨(x≠"__class__"∧env.kindOf x=some .cell))(hs:swapsWith e (some (.Name x p')) p.line env=pure false)(he:Ev W n ns env e f):
  Ex W n ns env (.Assign [.Name x p'] e p) (λ ρ σ Q=>f ρ σ λ v B4=>Q .next (ρ.set i v) B4):=λ A s ρ σ Q rm S F h=>
 wpAny_Assign_Name (he.bind rm S F h λ v I2 pv B4 q r N5 U4 x m=>sV (L:=false) hE N5 U4 hi (hk.imp id λ k=>⟨rfl,k⟩) r λ h' tk S' F' st=>
  ⟨_,_,_,q,.next,S',F',(fV.of x).trans (st.mono λ _=>KY.own),m.trans (.mk' _ _ _)⟩) hs
theorem Ap.len{L:Bool}{es:List Expr}{is:List Nat}(tg:Ap ns env L es is):is.length=es.length:=by
 induction tg with
 |nil=>rfl
 |cons _ _ _ ih=>simp[ih]
theorem Dy{e:Expr}{p tp:Pos}{c k:Nat}{es:List Expr}{is:List Nat}{f:T PV}(hE:U5 env)(tg:Ap ns env false es is)(hl:es.length=k+1)(hs:swapsWithSole [.Tuple es c tp] e p.line env=pure false)(hw:swappedStores [.Tuple es c tp] e env=pure none)(he:Ev W n ns env e f):
  Ex W n ns env (.Assign [.Tuple es c tp] e p) (λ ρ σ Q=>f ρ σ λ x B4=>∃xs,x=.tup xs∧xs.length=is.length∧Q .next (aN is xs ρ) B4):=λ A s ρ σ Q rm S F h=>by
 have li:=tg.len
 refine Assign_Tuple (he.bind rm S F h λ v I2 pv B4 q r N5 U4 x m=>?_) hs hw
 intros q xs hZ;obtain rfl:=hZ.1;delta hZ hZ lx q
 exact pH (L:=false) hE (.tup tg hl) rm N5 U4 r (by simp only[eH];rw[F7 (by lia)]) λ h' tk S' F' st=>
  ⟨_,_,_,q,.next,S',F',(fV.of x).trans (st.mono λ _=>KY.own),m.trans (.mk' _ _ _)⟩
theorem YL{e:Expr}{p tp p1 p2:Pos}{c:Nat}{x y:Str}{i j:Nat}{f:T PV}(hE:U5 env)(hi:ns[i]? =some (some x))(hj:ns[j]? =some (some y))(hx:env.kindOf x=some .local)(hy:env.kindOf y=some .local)(aq:i≠j)
  (hs:swapsWithSole [.Tuple [.Name x p1,.Name y p2] c tp] e p.line env=pure false)(hw:swappedStores [.Tuple [.Name x p1,.Name y p2] c tp] e env=pure (some [x,y]))(he:Ev W n ns env e f):
  Ex W n ns env (.Assign [.Tuple [.Name x p1,.Name y p2] c tp] e p) (λ ρ σ Q=>f ρ σ λ x B4=>∃xs,x=.tup xs∧xs.length=[i,j].length∧Q .next (aN [i,j] xs ρ) B4):=λ A s ρ σ Q rm S F h=>by
 refine Assign_Tuple_swapped (he.bind rm S F h λ v I2 pv B4 q r N5 U4 t m=>?_) hs hw
 intros q xs hZ;obtain rfl:=hZ.1;delta hZ hZ lx q
 cases r with
 |@tup xs a vs ht rs _=>
  cases rs with
  |nil=>simp at lx
  |@cons a1 v1 dy ed r1 s7=>
   cases s7 with
   |nil=>simp at lx
   |@cons a2 v2 dw ec r2 s6=>
    cases s6 with
    |cons=>simp at lx
    |nil=>
     refine wpAny_unpackItems_tuple (items:=#[v1,v2]) rm.hd ht λ h' eb=>?_
     have kp:∀b o,I2.heap.get? b=some o->h'.get? b=some o:=λ b o e=>eb b o (by rintro rfl;exact Nat.lt_irrefl _ (kL e)) e
     have S':=N5.keeps kp
     have F':=U4.eM N5 (.keeps kp)
     have m1:nS I2.heap h':=.keeps kp
     show wpAny _ _ (holding [v1] (bindName env y v2)>>=λ _=>(holding [] (bindName env x v1)>>=λ _=>pure ())) _ _ _
     refine B6 (K2 (wpAny_bindName (sV (L:=false) (s:={I2 with heap:=h'}) hE S' F' hj (.inl hy) (r2.V7 m1) λ h2 Pc S2 F2 Pg=>?_)))
     refine B6 (K2 (wpAny_bindName (sV (L:=false) (s:={I2 with heap:=h2,toks:=Pc}) hE S2 F2 hi (.inl hx) ((r1.V7 m1).V7 (Pg.V7 S' F' λ _=>KY.own)) λ h3 eo S3 F3 Td=>?_)))
     refine D4 ⟨.next,_,B4,q,.next,S3,?_,((fV.of t).trans (fV.of (.keeps kp))).trans ((Pg.trans Td).mono λ _=>KY.own),m.trans (.mk' _ _ _)⟩
     have e:aN [i,j] [a1,a2] ρ=(ρ.set j a2).set i a1:=by
      show(ρ.set i a1).set j a2=_
      rw[List.set_comm _ _ aq]
     rw[e];exact F3
theorem Ed{o e:Expr}{p p':Pos}{x:Str}{f g:T PV}{eE:String}{tb:fL}(hW:W.Ok)(y4:W.jK tb)(hx:x=Str.ofString eE)(hs:swapsWith e (some (.Attribute o x p')) p.line env=pure false)(he:Ev W n ns env e f)(ho:Ev W n ns env o g):
  Ex W n ns env (.Assign [.Attribute o x p'] e p) (λ ρ σ Q=>f ρ σ λ v B4=>g ρ B4 λ ov H6=>kO tb H6 eE v (λ R9=>Q .next ρ R9) ov):=λ A s ρ σ Q rm S F h=>by
 subst hx
 refine plainObj_wpAny_Assign_Attribute (he.bind rm S F h λ v I2 pv B4 q r N5 U4 t m=>?_) hs
 refine ho.bind rm N5 U4 q λ ov fC t8 H6 q r2 aQ pL t2 m2=>?_
 cases r2 with
 |ref a=>
  intros q C dx fs hZ;delta hZ e1 e2 e3 e4 q
  exact MB hW aQ e1 e2 (y4.fld _ _ e3) e4 (r.V7 (t2.V7 N5)) λ h' tk S' t'=>⟨_,_,_,q,.next,S',pL.eM aQ t',((fV.of t).trans (.of t2)).trans (.of t'),(m.trans m2).trans (.mk' _ _ _)⟩
 |_=>exact q.elim
theorem Dz{o i e:Expr}{p p':Pos}{f g k:T PV}(hW:W.Ok)(hs:swapsWith e (some (.Subscript o i p')) p.line env=pure false)(he:Ev W n ns env e f)(ho:Ev W n ns env o g)(hi:Ev W n ns env i k):
  Ex W n ns env (.Assign [.Subscript o i p'] e p) (λ ρ σ Q=>f ρ σ λ v B4=>g ρ B4 λ ov H6=>k ρ H6 λ iv R9=>kM R9 iv v (λ mU=>Q .next ρ mU) ov):=λ A s ρ σ Q rm S F h=>by
 refine wpAny_Assign_Subscript (he.bind rm S F h λ v I2 pv B4 q r N5 U4 t m=>?_) hs
 refine ho.bind rm N5 U4 q λ ov fC t8 H6 q r2 aQ pL t2 m2=>?_
 refine hi.bind rm aQ pL q λ iv aU eq R9 q r3 eJ rX t3 m3=>?_
 refine I7 (MA rm eJ (r2.V7 (t3.V7 aQ)) r3 (r.V7 ((t2.trans t3).V7 N5)) q) (λ _ LR p=>?_) λ _ _ e=>e
 intros p mU hZ;delta hZ q CL t4 m4
 exact⟨_,_,_,q,.next,CL,rX.eM eJ t4,(((fV.of t).trans (.of t2)).trans (.of t3)).trans (.of t4),((m.trans m2).trans m3).trans m4⟩
theorem Rr{c:Expr}{a b:List Stmt}{p:Pos}{f:T Bool}{g k:TS}(hc:FP W n ns env c f)(ha:UT W n ns env a g)(hb:UT W n ns env b k):
  Ex W n ns env (.If c a b p) (λ ρ σ Q=>f ρ σ λ t B4=>match t with
  |true=>g ρ B4 Q
  |false=>k ρ B4 Q):=λ A s ρ σ Q rm S F h=>by
 refine wpAny_If (I7 (hc A s ρ σ _ rm S F h) (λ t I2 p=>?_) λ _ _ e=>e)
 intros p B4 hZ;delta hZ q N5 x m
 have U4:=F.eM S x
 cases t with
 |true=>exact I7 (ha A I2 ρ B4 Q rm N5 U4 q) (λ _ _ p=>p.step (.of x) m) λ _ _ e=>e
 |false=>exact I7 (hb A I2 ρ B4 Q rm N5 U4 q) (λ _ _ p=>p.step (.of x) m) λ _ _ e=>e
theorem YJ{c:Expr}{b:List Stmt}{p:Pos}{f:T Bool}{g:TS}(hc:FP W n ns env c f)(hb:UT W n ns env b g):
  Ex W n ns env (.While c b [] p) (λ ρ σ Q=>∃k,uO f g k ρ σ Q):=λ A s ρ σ Q rm S F h=>by
 intros h k h
 refine wpAny_While ?_
 refine codeAny_whileLoop (λ m s'=>∃O5 B9,uO f g m O5 B9 Q∧SR W B9 s'.heap∧FR W ns O5 env B9 s'.heap∧HZ env σ s.heap B9 s'.heap∧Sm s s') ?_ k ⟨ρ,σ,h,S,F,.refl _ _ _,.refl _⟩
 intro m s' hQ;intros hQ O5 B9 hZ;delta hZ h S' F' x sm
 cases m with
 |zero=>exact h.elim
 |succ m=>
  refine I7 (hc A s' O5 B9 _ rm S' F' h) (λ t I2 p=>?_) λ _ _ e=>e.elim
  intros p B4 hZ;delta hZ q N5 W6 m₁
  have U4:=F'.eM S' W6
  have xx:=x.trans (.of W6)
  cases t with
  |false=>exact wpAny_execs_nil ⟨.next,_,_,q,.next,N5,U4,xx,sm.trans m₁⟩
  |true=>
   refine I7 (hb A I2 O5 B4 _ rm N5 U4 q) (λ fl fC p=>?_) λ _ _ e=>e.elim
   intros p fl Gq H6 hZ;delta hZ q r aQ pL cC m₂
   have x3:=xx.trans cC
   have m3:=(sm.trans m₁).trans m₂
   cases r with
   |next=>exact⟨m,K5 _,Gq,H6,q,aQ,pL,x3,m3⟩
   |cont=>exact⟨m,K5 _,Gq,H6,q,aQ,pL,x3,m3⟩
   |brk=>exact⟨.next,_,_,q,.next,aQ,pL,x3,m3⟩
   |ret r=>exact⟨_,_,_,q,.ret r,aQ,pL,x3,m3⟩
theorem JU{t:Expr}{k:Nat}{is:List Nat}{b:List Stmt}{g:TS}{turn:PV->TS}{iv:PV}{it:Addr}(hE:U5 env)(rm:Rm n A)(tg:Tg ns env false t k is)(hb:UT W n ns env b g)
  (ht:∀x ρ σ R,turn x ρ σ R->∃ys,eH k x=some ys∧g (aN is ys ρ) σ R)
  (nI:I2.heap.get? it=none)(bI:W.h₀.get? it=none)(oI:¬rK env it)
  (l:List PV)(s:Shared)(S:SR W σ s.heap)(F:FR W ns ρ env σ s.heap)(x:HZ env B4 I2.heap σ s.heap)(sm:Sm I2 s)(st:M9 B4 iv σ)(nT:σ it=none)(ir:rW W σ s.heap it iv l)
  (h:jV (M9 B4 iv) turn l ρ σ Q):
  codeAny W.M A (.forLoop t (.ref it) b [] env) (λ r s'=>match r with|.ok f=>CN W ns env B4 I2 Q f s'|.error e=>cameBackBy W.M A env (λ _ _=>False) e s') s:=by
 refine codeAny_forLoop_any (λ m s=>∃l ρ σ,m=l.length∧SR W σ s.heap∧FR W ns ρ env σ s.heap∧HZ env B4 I2.heap σ s.heap∧Sm I2 s∧M9 B4 iv σ∧σ it=none∧rW W σ s.heap it iv l∧jV (M9 B4 iv) turn l ρ σ Q) ?_ l.length ⟨l,ρ,σ,rfl,S,F,x,sm,st,nT,ir,h⟩
 intro m s hQ;intros hQ l ρ σ hZ;clear ir nT;obtain⟨rfl,S,F,x,sm,st,nT,ir,h⟩:=hZ
 refine A0 (ir.has) λ oi hZ=>?_;delta hZ ei ni
 have step:∀h',OT it s.heap h'->HZ env B4 I2.heap σ h':=λ h' k'=>⟨λ b o e q p=>by
  have:=x.bN b o e q p
  exact⟨k' b o (by clear ir bI ei oI nT k';rintro rfl;rw[nI]at e;cases e) this.1,this.2⟩,x.ID⟩
 refine ir.next rm S nT bI (λ y r hl u h' tk ru Hs S' k'=>?_) λ hl h' tk S' k'=>?_
 ·clear ir nI x;subst hl
  have m1:nS s.heap h':=(S.fJ nT bI ei ni k').2
  have F':=F.fJ oI k' m1
  refine A0 (ht _ _ _ _ h) λ ys hZ=>?_;delta hZ hy hg
  refine JP (σ:=σ) tg Hs ?_
  refine pH (s:={s with heap:=h',toks:=tk}) hE tg rm S' F' ru hy λ h2 Pc S2 F2 t2=>?_
  have m2:=t2.V7 S' F' λ _=>KY.own
  have x2:=(step h' k').trans (t2.mono λ _=>KY.own)
  refine A0 (Hs.has) λ o1 hZ=>?_;delta hZ cu
  have QH:∀o,h'.get? it=some o->h2.get? it=some o:=λ o e=>(t2.bN it o e nT λ q=>oI q.own).1
  refine I7 (hb A {s with heap:=h2,toks:=Pc} _ σ _ rm S2 F2 hg) (λ fl aU p=>?_) λ _ _ e=>e.elim
  intros p fl Gp R9 hZ;delta hZ q r3 eJ rX gR Vy
  have x4:=x2.trans gR
  have m4:Sm I2 aU:=(sm.trans (.mk' _ _ _)).trans Vy
  have nx:M9 B4 iv R9->R9 it=none∧rW W R9 aU.heap it iv r:=λ w=>⟨(gR.bN it o1 (QH _ cu) nT oI).2,Hs.of (m2.trans (gR.V7 S2 F2 λ _ e=>e)) (λ o e=>(gR.bN it o (QH _ e) nT oI).1) (st.back w)⟩
  cases r3 with
  |next=>generalize q=hZ;try clear q;delta hZ w q;have hZ:=nx w;delta hZ i1 i2;exact⟨r.length,K5 _,r,Gp,R9,rfl,eJ,rX,x4,m4,w,i1,i2,q⟩
  |cont=>generalize q=hZ;try clear q;delta hZ w q;have hZ:=nx w;delta hZ i1 i2;exact⟨r.length,K5 _,r,Gp,R9,rfl,eJ,rX,x4,m4,w,i1,i2,q⟩
  |brk=>exact⟨.next,_,_,q,.next,eJ,rX,x4,m4⟩
  |ret r=>exact⟨_,_,_,q,.ret r,eJ,rX,x4,m4⟩
 ·clear ir;subst hl
  have m1:nS s.heap h':=(S.fJ nT bI ei ni k').2
  exact wpAny_execs_nil ⟨.next,_,_,h,.next,S',F.fJ oI k' m1,step h' k',sm.trans (.mk' _ _ _)⟩
theorem iK(F:FR W ns ρ env σ s.heap){a:Addr}(e:s.heap.get? a=none):¬rK env a:=λ q=>by
 rcases q with rfl|⟨x,hx⟩
 ·refine A0 (F.val) λ m hZ=>?_;refine A0 hZ.1 λ o P4=>?_;intros P4 _ fT;intros fT _ rZ;delta rZ ho;try clear hZ;rw[e]at ho;cases ho
 ·refine A0 (F.cells x a hx) λ v hZ=>?_;intros hZ o Q0;delta Q0 ho;rw[e]at ho;cases ho
theorem YK{t iter:Expr}{k:Nat}{is:List Nat}{b:List Stmt}{p:Pos}{f:T PV}{g:TS}{turn:PV->TS}(hW:W.Ok)(hE:U5 env)(tg:Tg ns env false t k is)(hi:Ev W n ns env iter f)(hb:UT W n ns env b g)
  (ht:∀x ρ σ R,turn x ρ σ R->∃ys,eH k x=some ys∧g (aN is ys ρ) σ R)(hs:∀x,foldedSetIterable iter env x=pure x):
  Ex W n ns env (.For t iter b [] p) (λ ρ σ Q=>f ρ σ λ iv B4=>∃xs,mB B4 iv xs∧jV (M9 B4 iv) turn xs ρ B4 Q):=λ A s ρ σ Q rm S F h=>by
 refine wpAny_For (hi.bind rm S F h λ v I2 pv B4 q r N5 U4 x m=>?_) hs
 intros q xs hZ;delta hZ hit hf
 refine QK hW N5 r hit λ it h' nT bI nI ir kp=>?_
 refine codeAny_mono (JU (I2:=I2) (B4:=B4) (s:={I2 with heap:=h'}) hE rm tg hb ht nI bI (iK U4 nI) xs (N5.keeps kp) (U4.eM N5 (.keeps kp)) (.of (.keeps kp)) ⟨h',I2.toks,rfl⟩ (by clear F U4 S N5 bI h hE hW hb hi hit hs ht iter kp nI rm tg;clear hf ir r;cases pv<;>first|trivial|rfl) nT ir hf) λ r s' p=>?_
 clear hf ir;cases r with
 |ok f=>exact p.step (.of x) m
 |error e=>exact p
end
section
variable{W:Wd}{n:Nat}{ns:List (Option Str)}{ρ:List PV}{env:Env}{A:Around}{s I2:Shared}{σ B4:PH}{Q:Fl->List PV->PH->Prop}
theorem Se{pos:Pos}{f:Value}{es:List Expr}{g:T (List PV)}{Q:List PV->PH->Prop}{R:Value->Shared->Prop}(hW:W.Ok)(hk:mP W f)(hs:UU W n ns env es g)(rm:Rm n A)(S:SR W σ s.heap)(F:FR W ns ρ env σ s.heap)
  (h:g ρ σ Q)(hR:∀vs I2 xs B4,Q xs B4->bO I2.heap xs vs->SR W B4 I2.heap->FR W ns ρ env B4 I2.heap->kB σ s.heap B4 I2.heap->Sm s I2->wpAny W.M A (call f vs) R (λ _ _=>False) I2):
  wpAny W.M A (callWith pos f [] (backTo pos (starEach es env)) []) R (λ _ _=>False) s:=by
 have hp:(backTo pos (starEach es env)).any (·.1)=false:=by
  unfold backTo
  rw[nO]
  have:=hs.1
  rw[G3]at this
  rw[List.any_eq_false]
  intro x hx
  have:=this x hx
  simpa using this
 refine callWith_of (P:=λ h=>W.K.In h) (by rw[hp];rfl) (λ hh X=>?_) (mH hp ?_)
 ·clear hR;cases hk with
  |builtin i=>exact⟨.machine,.inr (.inl rfl),.now⟩
  |type i=>exact⟨.machine,.inr (.inl rfl),.now⟩
  |ref k=>exact keeps_K k hh X
 ·refine I7 (hs.2 A s ρ σ _ pos rm S F h) (λ vs I2 ⟨xs,B4,xO,l₁,Y0,N5,W6,Y6⟩=>⟨hW.IB.keeps N5.keep,?_⟩) λ _ _ z=>z
  exact hR vs I2 xs B4 xO Y0 N5 (F.eM S W6) W6 Y6
theorem Dv{t e:Expr}{k:Nat}{is:List Nat}{b:List Stmt}{p np cp:Pos}{f:T PV}{g:TS}{turn:PV->TS}(hW:W.Ok)(hE:U5 env)(hk:env.kindOf "reversed"=some .globalImplicit)(gl:pK W "reversed" (.type "reversed"))(he:rG e=true)
  (tg:Tg ns env false t k is)(hi:Ev W n ns env e f)(hb:UT W n ns env b g)
  (ht:∀x ρ σ R,turn x ρ σ R->∃ys,eH k x=some ys∧g (aN is ys ρ) σ R):
  Ex W n ns env (.For t (.Call (.Name "reversed" np) [e] [] cp) b [] p) (λ ρ σ Q=>f ρ σ λ iv B4=>∃a xs,iv=.ref a∧B4 a=some (.list xs)∧xs.length<=2^24∧jV (M9 B4 iv) turn xs.reverse ρ B4 Q):=λ A s ρ σ Q rm S F h=>by
 refine wpAny_For ?_ λ _=>rfl
 show wpAny _ _ (do callWith cp (<-eval (.Name "reversed" np) env) [] (backTo cp (starEach [e] env)) (backToKw cp [])) _ _ _
 refine B6 (hW.glob hE hk (by decide) S gl ?_)
 refine Se (Q:=λ l B4=>match l with
  |[iv]=>∃a xs,iv=.ref a∧B4 a=some (.list xs)∧xs.length<=2^24∧jV (M9 B4 iv) turn xs.reverse ρ B4 Q
  |_=>False) hW (.type "reversed") (JY he hi RE) rm S F h λ vs I2 xs B4 q r N5 U4 W6 m₁=>?_
 cases r with
 |nil=>exact q.elim
 |@cons pv v q8 Vf rv rr=>
  cases rr with
  |cons=>exact q.elim
  |nil=>
   intros q a ys hZ;obtain rfl:=hZ.1;delta hZ hZ ea hz hf
   cases rv
   refine ee2.e (N5.list ea) λ us kk hZ=>?_;delta hZ e1 r1
   have l1:=r1.length
   refine call_reversed_list (Q3 e1) ?_
   have fr:I2.heap.get? I2.heap.objs.size=none:=W7 (D7 _)
   have kp:=Q6 I2.heap (revObj a ((us.toArray.size:Int) - 1))
   have hit:Heap.IsRevIter (I2.heap.push (revObj a ((us.toArray.size:Int) - 1))) I2.heap.objs.size a ((ys.length:Int) - 1):=⟨_,N6 _ rfl,rfl,by
    show Data.fields #[.ref a,rawInt ((us.toArray.size:Int) - 1)]=_
    rw[H0,l1]⟩
   have ir:rW W B4 (I2.heap.push (revObj a ((us.toArray.size:Int) - 1))) I2.heap.objs.size (.ref a) ys.reverse:=by
    have:=rW.rev (W:=W) (i:=ys.length) ea hit (D7 _)
    rwa [bZ]at this
   refine wpAny_pyIter_revIter (s:={I2 with heap:=I2.heap.push (revObj a ((us.toArray.size:Int) - 1))}) hit ?_
   refine codeAny_mono (JU (I2:=I2) (B4:=B4) (iv:=.ref a) (s:={I2 with heap:=I2.heap.push (revObj a ((us.toArray.size:Int) - 1))}) hE rm tg hb ht fr (N5.fK fr) (iK U4 fr) ys.reverse (N5.keeps kp) (U4.eM N5 (.keeps kp)) (.of (.keeps kp)) ⟨_,I2.toks,rfl⟩ rfl (N5.fresh fr) ir hf) λ r s' p=>?_
   cases r with
   |ok f=>exact p.step (.of W6) m₁
   |error e=>exact p
end
theorem bA{α:Type}:∀{ns:List Str} {vs:List α} {i:Nat} {x:Str},ns.Nodup->ns[i]? =some x->(ns.zip vs).lookup x=vs[i]?
 |[],_,i,x,_,h=>by simp at h
 |n::ns,[],i,x,_,h=>by simp
 |n::ns,v::vs,0,x,_,h=>by simp at h;subst h;simp
 |n::ns,v::vs,i+1,x,nd,h=>by
  simp at h
  have hx:x≠n:=λ e=>(N7.mp nd).1 (e▸B5 h)
  have:(x==n)=false:=by simpa using hx
  rw[gB,I1,this]
  simpa using bA (N7.mp nd).2 h
theorem vU{α:Type}:∀{ns:List Str} {vs:List α},ns.Nodup->ns.length=vs.length->ns.filterMap (λ n=>((ns.zip vs).lookup n).map (n,·))=ns.zip vs:=by
 intro ns vs nd hl
 have gen:∀(pre post:List Str) (vp vq:List α),ns=pre++post->pre.length=vp.length->vs=vp++vq->post.filterMap (λ n=>((ns.zip vs).lookup n).map (n,·))=post.zip vq:=by
  intro pre post
  induction post generalizing pre with
  |nil=>intros;simp
  |cons x r ih=>
   intro vp vq e1 e2 e3
   cases vq with
   |nil=>clear ih nd;subst e1 e3;simp at hl;omega
   |cons v q=>
    have hx:ns[pre.length]? =some x:=by rw[e1];simp
    have hv:vs[pre.length]? =some v:=by rw[e3,e2];simp
    rw[List.filterMap_cons,bA nd hx,hv]
    simp only[fW,gB]
    rw[ih (pre++[x]) (vp++[v]) q (by rw[e1];simp) (by simp[e2]) (by rw[e3];simp)]
 exact gen [] ns [] vs rfl rfl rfl
theorem BK{α β:Type}(f:α->β->Sem (ForInStep β))(g:β->α->β)(hf:∀x b,f x b=pure (.yield (g b x))):∀(l:List α) (b:β),forIn l b f=pure (l.foldl g b)
 |[],b=>by rw[List.forIn_nil];rfl
 |x::r,b=>by rw[List.forIn_cons,hf];exact BK f g hf r (g b x)
theorem vS{α:Type}{a b:List (Str×α)}{x:Str}:(a++b).lookup x=(a.lookup x).or (b.lookup x):=by
 induction a with
 |nil=>simp
 |cons p r ih=>
  obtain⟨n,v⟩:=p
  rw[P7,I1,I1]
  split
  ·simp
  ·exact ih
theorem IG{α β:Type}{d:β}:∀{ns:List α} {us:List β} (h:us.length<ns.length),ns.zip us++[(ns[us.length],d)]=ns.zip (us++[d])
 |[],us,h=>by simp at h
 |n::ns,[],h=>by simp
 |n::ns,u::us,h=>by
  have:=IG (d:=d) (ns:=ns) (us:=us) (by simpa using h)
  simp only[H5,List.getElem_cons_succ,gB,P7,this]
theorem TW{ns:List Str}{vs ds:List Value}(nd:ns.Nodup)(h:vs.length+ds.length=ns.length)(k:Nat)(hk:k<=vs.length)(ex:List Value)(hex:ex.length=k):
  ((ns.drop (vs.length - k)).zip (ex++ds)).foldl (λ b (p:Str×Value)=>if((b.lookup p.1).isNone)=true then b++[(p.1,p.2)]else b) (ns.zip vs)=ns.zip (vs++ds):=by
 have le:vs.length<=ns.length:=h▸J6 ..
 have one:∀(k j:Nat) (ex:List Value),j+k=vs.length->ex.length=k->((ns.drop j).zip (ex++ds)).foldl (λ b (p:Str×Value)=>if((b.lookup p.1).isNone)=true then b++[(p.1,p.2)]else b) (ns.zip vs)
   =((ns.drop vs.length).zip ds).foldl (λ b (p:Str×Value)=>if((b.lookup p.1).isNone)=true then b++[(p.1,p.2)]else b) (ns.zip vs):=by
  intro k
  induction k with
  |zero=>intro j ex hj he;rw[show ex=[]from List.length_eq_zero_iff.mp he,show j=vs.length from hj];rfl
  |succ k ih=>
   intro j ex hj he
   cases ex with
   |nil=>cases he
   |cons e r=>
    have hv:j<vs.length:=Nat.lt_of_lt_of_eq (gJ (eO k)) hj
    have BJ:=D1 hv le
    rw[eV BJ,P7,gB,J0]
    have hx:ns[j]? =some ns[j]:=C4 BJ
    rw[bA nd hx,C4 hv]
    exact ih (j+1) r ((qW j k).trans hj) (Nat.succ.inj he)
 rw[one k (vs.length - k) ex (Nat.sub_add_cancel hk) hex]
 have two:∀(ds:List Value) (us:List Value),us.length+ds.length=ns.length->((ns.drop us.length).zip ds).foldl (λ b (p:Str×Value)=>if((b.lookup p.1).isNone)=true then b++[(p.1,p.2)]else b) (ns.zip us)=ns.zip (us++ds):=by
  intro ds
  induction ds with
  |nil=>intro us _;simp
  |cons d r ih=>
   intro us hu
   have BJ:us.length<ns.length:=Nat.lt_of_lt_of_eq (gJ (eO r.length)) hu
   rw[eV BJ,gB,J0]
   have hx:ns[us.length]? =some ns[us.length]:=C4 BJ
   rw[bA nd hx]
   simp only[jC (D7 _),Option.isNone_none,if_true]
   have e:ns.zip us++[(ns[us.length],d)]=ns.zip (us++[d]):=IG BJ
   rw[e]
   have:=ih (us++[d]) (by rw[B0];exact(qW us.length r.length).trans hu)
   simp only[B0,H5,List.length_nil,Y3]at this
   rw[this];simp
 exact two ds vs h
theorem Sj{v d N:Nat}(h1:v<=N)(h2:d<=N)(h3:N<=v+d):A7 (d - N=0) (v - (d+v - N)=N - d) (min (d+v - N) d=d+v - N) (v+(d - (d+v - N))=N) (d+v - N<=v) (N - d<=v) (N - d<=N):=by
 refine A0 (sH h1) λ k e=>?_;clear h1;subst e
 refine A0 (sH (Nat.le_of_add_le_add_left h3)) λ m e=>?_;clear h3;subst e
 rw[aE]at h2
 refine A0 (sH (Nat.le_of_add_le_add_right h2)) λ j e=>?_;clear h2;subst e
 rw[show k+m+(m+j) - (m+j+k)=m from by rw[aE (m+j) k,kC];rw[Nat.add_sub_add_left];exact Nat.add_sub_cancel ..,show m+j+k - (k+m)=j from by rw[aE (m+j) k];rw[Nat.add_sub_add_left];exact W0 ..,W0,Nat.add_sub_cancel]
 exact⟨jB (by rw[aE (m+j),<-kC];exact J6 ..),rfl,fX (Z9 ..),rfl,J6 ..,Z9 ..,A9 (Z9 j m) (J6 ..)⟩
theorem xI{s:Shared}{fd:FuncData}{ns:List Str}{vs ds:List Value}(hp:fd.params.posonlyargs=[])(ha:fd.params.args.map (·.arg)=ns)(hk:fd.params.kwonlyargs=[])(hv:fd.params.vararg=none)(hw:fd.params.kwarg=none)(nd:ns.Nodup)
  (hd:(ds=[]∧fd.defaults=.none)∨∃t o n,fd.defaults=.ref t∧s.heap.get? t=some o∧o.data=.seq ds.toArray n)
  (h1:vs.length<=ns.length)(h2:ds.length<=ns.length)(h3:ns.length<=vs.length+ds.length):
  BindsTo s fd ⟨vs,[]⟩ (ns.zip (vs++ds.drop (ds.length+vs.length - ns.length))):=λ M A E Q q=>by
 obtain⟨nm,qn,⟨po,ar,va,ko,kd,kw,df⟩,body,sc,gl,cl,Uk,ey,doc,pm,an,cd,ct,bl⟩:=fd
 dsimp only at hp ha hk hv hw hd
 subst hp hk hv hw
 unfold bindArgs
 simp -iota only[ha,nN,X5,List.forIn_nil,C9]
 have seq:∀R:Option (Array Value)->Shared->Prop,(∀o:Option (Array Value),(o.getD #[]).toList=ds->R o s)->wpAny M A (seqItems? Uk) R E s:=by
  intro R hR
  clear q h3 h2;rcases hd with⟨rfl,e⟩|⟨t,o,n,e,ho,ay⟩
  ·rw[e];exact D4 (hR none rfl)
  ·rw[e];exact wpAny_seqItems ho ay (hR _ (by simp))
 refine B6 (D4 ?_)
 refine B6 (seq _ λ o ho=>?_)
 rw[ho]
 dsimp only
 rw[G0 λ h=>jM.mpr h1 (D0 (F0.mp h).1)]
 have B:=Sj h1 h2 h3
 rw[B.1,List.drop_zero]
 have miss:((List.take (ns.length - ds.length) ns).filter λ n=>((ns.zip vs).lookup n).isNone)=[]:=by
  rw[R3]
  intro x hx
  refine A0 (List.mem_iff_getElem.mp hx) λ i hZ=>?_;intros hZ hi e
  have XQ:i<ns.length - ds.length:=D1 hi (List.length_take_le ..)
  have:ns[i]? =some x:=by rw[List.getElem_take]at e;rw[<-e];exact C4 (D1 XQ B.7)
  rw[bA nd this,C4 (D1 XQ B.6)]
  simp
 rw[miss]
 simp -iota only[List.isEmpty_nil,Bool.not_true,cS,gX]
 rw[BK _ (λ b (p:Str×Value)=>if((b.lookup p.1).isNone)=true then b++[(p.1,p.2)]else b) (λ p b=>by split<;>rfl)]
 refine B6 (D4 (B6 (D4 ?_)))
 simp -iota only[List.isEmpty_nil,Bool.not_true,cS,gX]
 have fold:=TW (ns:=ns) (vs:=vs) (ds:=ds.drop (ds.length+vs.length - ns.length)) nd (by rw[U7];exact B.4) (ds.length+vs.length - ns.length) B.5 (ds.take (ds.length+vs.length - ns.length)) (by rw[Y1];exact B.3)
 rw[List.take_append_drop,B.2]at fold
 rw[fold,vU nd (by rw[B0,U7];exact B.4.symm)]
 exact D4 q
theorem FL{k:Str->Option NameKind}{x:Str}:∀{l:List (Str×Value)} {m:Str->Option Value},(∀p∈l,p.1≠x)->bindL k l m x=m x
 |[],m,_=>rfl
 |(n,v)::r,m,h=>by
  unfold bindL
  rw[FL λ p hp=>h p (.tail _ hp)]
  have:x≠n:=gZ (h (n,v) (.head _))
  split
  ·exact G0 this
  ·rfl
theorem FN{k:Str->Option NameKind}{x:Str}:∀{l:List (Str×Value)} {m:Str->Option Value},(∀p∈l,p.1≠x)->bindC k l m x=m x
 |[],m,_=>rfl
 |(n,v)::r,m,h=>by
  unfold bindC
  rw[FN λ p hp=>h p (.tail _ hp)]
  have:x≠n:=gZ (h (n,v) (.head _))
  split
  ·rfl
  ·exact G0 this
theorem FM{k:Str->Option NameKind}{x:Str}{v:Value}:∀{l:List (Str×Value)} {m:Str->Option Value},(l.map (·.1)).Nodup->(x,v)∈l->k x=some .local->bindL k l m x=some v
 |(n,w)::r,m,nd,h,hk=>by
  unfold bindL
  rw[I6,N7]at nd
  cases h with
  |head=>
   rw[F7 hk,FL (λ p hp q=>nd.1 (by rw[<-q];exact D2.mpr ⟨p,hp,rfl⟩))];exact F7 rfl
  |tail _ h=>exact FM nd.2 h hk
theorem FO{k:Str->Option NameKind}{x:Str}{v:Value}:∀{l:List (Str×Value)} {m:Str->Option Value},(l.map (·.1)).Nodup->(x,v)∈l->k x≠some .local->bindC k l m x=some v
 |(n,w)::r,m,nd,h,hk=>by
  unfold bindC
  rw[I6,N7]at nd
  cases h with
  |head=>
   rw[G0 hk,FN (λ p hp q=>nd.1 (by rw[<-q];exact D2.mpr ⟨p,hp,rfl⟩))];exact F7 rfl
  |tail _ h=>exact FO nd.2 h hk
theorem cK{x:Str}:∀{l:List (Str×NameKind)} {n:Nat} {acc:List (Str×Addr)},((x,NameKind.cell)∈l∨(acc.lookup x).isSome=true)->((cellsFrom n l acc).lookup x).isSome=true
 |[],n,acc,h=>by rcases h with h|h;cases h;exact h
 |(y,k)::r,n,acc,h=>by
  unfold cellsFrom
  by_cases hk:k=.cell
  ·subst hk
   rw[F7 (O2 _)]
   refine cK ?_
   by_cases q:x=y
   ·subst q;exact .inr (by rw[cJ,F7 rfl];rfl)
   ·rcases h with h|h
    ·cases h with
     |head=>exact absurd rfl q
     |tail _ h=>exact .inl h
    ·exact .inr (by rw[cJ,G0 q];exact h)
  ·rw[G0 (by simpa using hk)]
   refine cK ?_
   rcases h with h|h
   ·cases h with
    |head=>exact absurd rfl hk
    |tail _ h=>exact .inl h
   ·exact .inr h
inductive gH:PV->Value->Prop
 |none:gH .none .none
 |bool (b:Bool):gH (.bool b) (.bool b)
 |int (i:Int) (t:Tok):gH (.int i) (.int i t)
 |str (s:Str) (t:Tok):s.length<=sizeLine->gH (.str s) (.str s t)
inductive bU:List PV->List Value->Prop
 |nil:bU [] []
 |cons {x:PV} {v:Value} {xs:List PV} {vs:List Value}:gH x v->bU xs vs->bU (x::xs) (v::vs)
theorem gH.vr{x:PV}{v:Value}(h:Heap)(r:gH x v):VR h x v:=by cases r;exact .none;exact .bool _;exact .int _ _;exact .str _ _ (by assumption)
theorem bU.Sy{x:List PV}{v:List Value}(h:Heap)(r:bU x v):bO h x v:=by
 induction r with
 |nil=>exact .nil
 |cons a _ ih=>exact .cons (a.vr h) ih
structure Gn(K:Frag)(a:Addr)(ps:List Str)(ds:List PV)(ls:List Str)(body:List Stmt)(sc:Scope)(fd:FuncData):Prop where
 obj:∃oc od Kc,K.lookup a=some ⟨oc,od,.func fd,Kc⟩
 body:fd.body=.stmts body
 scope:fd.scope=sc
 glob:fd.globals=mainGlobals
 blt:fd.builtins=builtinsNs
 code:codeIn K fd.code fd.qualname=true
 po:fd.params.posonlyargs=[]
 ar:fd.params.args.map (·.arg)=ps
 ko:fd.params.kwonlyargs=[]
 va:fd.params.vararg=none
 kw:fd.params.kwarg=none
 kind:sc.kind=.function
 gen:sc.isGenerator=false
 Ij:sc.isCoroutine=false
 Uk:(ds=[]∧fd.defaults=.none)∨∃t c d vs n sl,fd.defaults=.ref t∧K.lookup t=some ⟨c,d,.seq (List.toArray vs) n,sl⟩∧bU ds vs
 nd:(ps++ls).Nodup
 ks:∀x∈ps,sc.names.lookup x=some .local∨sc.names.lookup x=some .cell
 nf:∀x∈sc.names,x.2=.free->x.1=("__class__":Str)
 nc:∀x∈ps,x≠("__class__":Str)
structure Gm(fd:FuncData):Prop where
 cl:fd.closure=[]
def Pp(Q:PV->PH->Prop)(fl:Fl)(_:List PV)(B9:PH):Prop:=match fl with
 |.ret v=>Q v B9
 |.next=>Q .none B9
 |_=>False
def Ny(W:Wd)(tb:fL)(n:Nat)(b:V0)(ρ:List PV)(σ:PH)(Q:PV->PH->Prop):Prop:=S8 W tb n b ρ σ (Pp Q)
section
variable{W:Wd}{n:Nat}{A:Around}{s:Shared}{σ:PH}
theorem Nf.deeper{env:Env}(hE:U5 env)(rm:Nf (n+1) A):Rm n (A.deeper env):=by
 refine A0 (rm.fr) λ l h1=>?_
 exact⟨rm.hd,by have:=rm.dp;show A.depth+1+8*n<=_;lia,by have:=rm.un;show A.units+3+40*n<=_;lia,env,l,by show A.frames.map _=_;rw[h1];rfl,hE.glob,hE.blt,hE.gen,hE.Ij⟩
theorem GR{l:List Str}{i:Nat}{x:Str}(h:(l.map some)[i]? =some (some x)):l[i]? =some x:=by
 rw[H9]at h
 cases e:l[i]? with
 |none=>rw[e]at h;cases h
 |some y=>rw[e]at h;cases h;rfl
theorem oX{l:List Str}(h:l.Nodup):distinct (l.map some):=λ i j x h1 h2=>by
 have a:=GR h1
 have b:=GR h2
 refine A0 (D3.mp a) λ hi ei=>?_
 refine A0 (D3.mp b) λ hj ej=>?_
 rcases qF i j with q|q|q
 ·exact absurd (ei.trans ej.symm) (List.pairwise_iff_getElem.mp h i j hi hj q)
 ·exact q
 ·exact absurd (ej.trans ei.symm) (List.pairwise_iff_getElem.mp h j i hj hi q)
def US(W:Wd)(n:Nat)(f:Value)(args:List PV)(σ:PH)(Q:PV->PH->Prop):Prop:=
 ∀A s vs,Rm n A->SR W σ s.heap->bO s.heap args vs->codeAny W.M A (.call f ⟨vs,[]⟩) (λ r s'=>match r with|.ok (.ret v)=>K4 W σ s Q v s'|.ok _=>False|.error e=>False) s
def KU(W:Wd)(n:Nat)(f:Value)(args:List PV)(σ:PH)(Q:PV->PH->Prop):Prop:=
 ∀A s vs,Nf n A->SR W σ s.heap->bO s.heap args vs->codeAny W.M A (.call f ⟨vs,[]⟩) (λ r s'=>match r with|.ok (.ret v)=>K4 W σ s Q v s'|.ok _=>False|.error e=>False) s
theorem KU.q9{f:Value}{args:List PV}{Q:PV->PH->Prop}(x:KU W n f args σ Q):US W n f args σ Q:=λ A s vs a=>x A s vs a.Yx
theorem US.ok{f:Value}{args:List PV}{Q:PV->PH->Prop}(x:US W n f args σ Q):J9 W n f args σ Q:=λ A s vs a b c=>wpAny_call (x A s vs a b c)
theorem Rp{tb:fL}{a:Addr}{ps ls:List Str}{ds:List PV}{body:List Stmt}{sc:Scope}{fd:FuncData}{b:V0}{args:List PV}{Q:PV->PH->Prop}(hW:W.Ok)(H:Gn W.K a ps ds ls body sc fd)(Hc:Gm fd)
  (hb:∀env,U5 env->env.scope=sc->UT W n ((ps++ls).map some) env body (S8 W tb n b))
  (h1:args.length<=ps.length)(h2:ds.length<=ps.length)(h3:ps.length<=args.length+ds.length)
  (h:Ny W tb n b (args++ds.drop (ds.length+args.length - ps.length)++List.replicate ls.length .M7) σ Q):KU W (n+1) (.ref a) args σ Q:=λ A s vs rm S rv=>by
 refine ee3.e (H.obj) λ oc od Kc ho=>?_
 have X:=hW.IB.keeps S.keep
 have hl:=rv.length
 have Nl:ps.Nodup:=(O8.mp H.nd).1
 obtain⟨dv,Ub,dr⟩:∃dv:List Value,((dv=[]∧fd.defaults=.none)∨∃t o n,fd.defaults=.ref t∧s.heap.get? t=some o∧o.data=.seq dv.toArray n)∧bU ds dv:=by
  clear h h3 h2;rcases H.Uk with⟨rfl,e⟩|⟨t,c,d,us,k,sl,e,ht,r⟩
  ·exact⟨[],.inl ⟨rfl,e⟩,.nil⟩
  ·exact⟨us,.inr ⟨t,_,k,e,X _ _ ht,rfl⟩,r⟩
 have ld:=(dr.Sy s.heap).length
 have bt:=xI (s:=s) (vs:=vs) H.po H.ar H.ko H.va H.kw Nl Ub (by rw[hl];exact h1) (by rw[ld];exact h2) (by rw[ld,hl];exact h3)
 have Tf:bO s.heap (args++ds.drop (ds.length+args.length - ps.length)) (vs++dv.drop (dv.length+vs.length - ps.length)):=by
  rw[ld,hl];exact rv.append ((dr.Sy s.heap).drop _)
 generalize fh:vs++dv.drop (dv.length+vs.length - ps.length)=vv at bt Tf
 generalize bn:args++ds.drop (ds.length+args.length - ps.length)=aa at h Tf
 have Tn:aa.length=ps.length:=by rw[<-bn,B0,U7];exact(Sj h1 h2 h3).4
 have Zm:vv.length=ps.length:=by rw[Tf.length,Tn]
 refine codeAny_call_function rm.depth (X _ _ ho) rfl (by rw[H.scope];exact H.Ij) (by rw[H.scope];exact H.gen) H.body (codeRec_of X H.code) (bt _ _ _ _ ?_)
 rw[Hc.cl,H.scope]
 have mem:∀{x:Str} {v:Value},(x,v)∈ps.zip vv->x∈ps:=λ h=>(List.of_mem_zip h).1
 refine wpAny_newFunctionEnv_cells H.kind (λ x hx=>?_) λ env he I2 I=>?_
 ·rcases H.ks x.1 (List.of_mem_zip hx).1 with k|k
  ·exact .inl k
  ·exact .inr ⟨k,cK (.inl (mem_of_lookupK k))⟩
 refine A0 (I.done) λ mF hZ=>?_;intros hZ tk Q0;obtain rfl:=Q0.1;delta Q0 Q0 kp
 refine⟨(hW.nolimit.keeps S.keep).keeps kp,codeAny_func ?_⟩
 have YV:env.scope=sc:=by rw[he];rfl
 have YY:∀x,env.kindOf x=sc.names.lookup x:=λ x=>by unfold Env.kindOf;rw[YV]
 have Uj:env.cells=cellsFrom (s.heap.objs.size+1) sc.names []:=by rw[he];rfl
 have eL:env.locals=s.heap.objs.size:=by rw[he];rfl
 have hE:U5 env:=by
  refine⟨by rw[YV];exact H.kind,by rw[he];exact H.glob,by rw[he];exact H.blt,by rw[YV];exact H.gen,by rw[YV];exact H.Ij,λ x nx hk=>?_⟩
  rw[YY]at hk
  rcases hk with k|k
  ·refine A0 (qV.mp (cK (n:=s.heap.objs.size+1) (acc:=[]) (.inl (mem_of_lookupK k)))) λ c hc=>?_
   exact⟨c,BW nx (by rw[Uj];exact hc)⟩
  ·exact absurd (H.nf _ (mem_of_lookupK k) rfl) nx
 have Sc:∀x c,DJ env x=some c->env.cells.lookup x=some c:=λ x c=>mI
 have nL:s.heap.get? env.locals=none:=by rw[eL];exact W7 (D7 _)
 have nC:∀x c,DJ env x=some c->s.heap.get? c=none:=λ x c e=>W7 (by have:=I.above x c (mQ (Sc x c e));rw[eL]at this;exact M8 this)
 have F:FR W ((ps++ls).map some) (aa++List.replicate ls.length .M7) env σ mF:=by
  refine⟨⟨_,I.toInCall.ns,λ i x pv e1 e2 ne=>?_⟩,λ x c e=>⟨_,I.cell x c (Sc x c e)⟩,λ x y c e1 e2=>PySem.name_of_addr I.apart (mQ (Sc _ _ e1)) (mQ (Sc _ _ e2)),λ q hq=>?_,by simp[Tn],oX H.nd⟩
  ·have Rw:=GR e1
   by_cases hi:i<ps.length
   ·rw[I4 hi]at Rw
    rw[I4 (by rw[Tn];exact hi)]at e2
    refine A0 (Tf.get e2) λ v hZ=>?_;delta hZ e3 r
    have mz:(x,v)∈ps.zip vv:=by
     have:(ps.zip vv)[i]? =some (x,v):=by rw[List.getElem?_zip_eq_some];exact⟨Rw,e3⟩
     exact B5 this
    have Tk:((ps.zip vv).map (·.1)).Nodup:=by
     rw[show(ps.zip vv).map (·.1)=ps from by rw[List.map_fst_zip (by lia)]];exact Nl
    have xp:=mem mz
    refine⟨v,r.V7 (.keeps kp),?_⟩
    rcases H.ks x xp with k|k
    ·exact .inl ⟨(YY x).trans k,FM Tk mz ((YY x).trans k)⟩
    ·refine A0 (hE.cls x (H.nc x xp) (.inl ((YY x).trans k))) λ c hc=>?_
     refine .inr ⟨.inl ((YY x).trans k),c,hc,?_⟩
     have:=I.cell x c (Sc x c hc)
     rwa [FO Tk mz (by rw[YY,k];decide)]at this
   ·rw[N2 (by rw[Tn];lia),gL]at e2
    split at e2
    ·cases e2;exact absurd rfl ne
    ·cases e2
  ·have:s.heap.get? q=none:=by
    rcases hq with rfl|⟨x,e⟩
    ·exact nL
    ·exact nC x q e
   exact⟨S.fresh this,S.fK this⟩
 have N5:=S.keeps kp
 refine I7 (hb env hE YV (A.deeper env) {s with heap:=mF,toks:=tk} _ σ _ (rm.deeper hE) N5 F h) (λ f fC p=>?_) λ _ _ e=>e.elim
 intros p fl O5 B9 hZ;delta hZ q r aQ pL x m
 have t:kB σ s.heap B9 fC.heap:=⟨λ b o e q=>x.bN b o (kp b o e) q (λ w=>by
  rcases w with rfl|⟨y,w⟩
  ·rw[nL]at e;cases e
  ·rw[nC y b w]at e;cases e),x.ID⟩
 have m':Sm s fC:=(Sm.mk' s mF tk).trans m
 cases r with
 |next=>exact⟨.none,B9,q,.none,aQ,t,m'⟩
 |ret r=>exact⟨_,B9,q,r,aQ,t,m'⟩
 |_=>exact q.elim
end
structure Iu(K:Frag)(C fI:Addr):Prop where
 makes:makesIn K C=true
 init:findIn K (.ref C) "__init__"=some (some (.ref fI))
 fn:typeIn K (.ref fI)=some (.type "function")
section
variable{W:Wd}{n:Nat}{A:Around}{s:Shared}{σ:PH}
theorem Rm.made{C:Addr}{vs:List Value}(rm:Rm (n+1) A):Rm n (A.under (.builtin "type.__call__" ⟨.ref C::vs,[]⟩)):=by
 refine ee2.e (rm.fr) λ e o hZ=>?_;delta hZ h1 h2 h3 h4 h5
 refine⟨rm.hd,?_,?_,e,o,?_,h2,h3,h4,h5⟩
 ·rw[depth_under_make];have:=rm.dp;lia
 ·have:=rm.un
  have e:(A.under (.builtin "type.__call__" ⟨.ref C::vs,[]⟩)).units=A.units+1:=rfl
  rw[e];lia
 ·have e2:(A.under (.builtin "type.__call__" ⟨.ref C::vs,[]⟩)).frames=pushEnvs [] A.frames:=rfl
  rw[e2,h1];rfl
theorem Mi{C fI:Addr}{args:List PV}{Q:PV->PH->Prop}(hW:W.Ok)(H:Iu W.K C fI)
  (h:∀x dx,x≠dx->σ x=none->σ dx=none->US W n (.ref fI) (.ref x::args) ((σ.set dx (.attrs C [])).set x (.inst C dx)) (λ v B9=>v=.none∧Q (.ref x) B9)):J9 W (n+1) (.ref C) args σ Q:=λ A s vs rm S rv=>by
 obtain⟨hh,g,d,t,os⟩:=s
 have X:=hW.IB.keeps S.keep
 refine wpAny_call (make_core (makes_of X H.makes) (looks_findIn X H.init) (λ self=>bind_fn X self H.fn) (.inl rfl) ?_)
 have n1:hh.get? hh.objs.size=none:=W7 (D7 _)
 have hZ:=S.alloc (o:=.attrs C []) (ob:=emptyDict) n1 (Q6 hh emptyDict) (N6 _ rfl) (.attrs (es:=[]) .nil);delta hZ S1 t1 s1
 have sz:(hh.push emptyDict).objs.size=hh.objs.size+1:=Heap.size_push ..
 have n2:(hh.push emptyDict).get? (hh.objs.size+1)=none:=W7 (by rw[sz];exact D7 _)
 have hZ:=S1.alloc (o:=.inst C hh.objs.size) (ob:=instObj C hh.objs.size) n2 (Q6 _ _) (Heap.get?_push_at sz.symm rfl) .inst;delta hZ S2 t2 s2
 have ne:hh.objs.size+1≠hh.objs.size:=Nat.succ_ne_self _
 have sx:σ (hh.objs.size+1)=none:=by rw[PH.U0 _ _ ne]at s2;exact s2
 have kp:∀b o,hh.get? b=some o->((hh.push emptyDict).push (instObj C hh.objs.size)).get? b=some o:=λ b o e=>Q6 _ _ b o (Q6 _ _ b o e)
 have:=h _ _ ne sx s1 (A.under (.builtin "type.__call__" ⟨.ref C::vs,[]⟩)) ⟨(hh.push emptyDict).push (instObj C hh.objs.size),g,d,t,os⟩ (.ref (hh.objs.size+1)::vs) rm.made S2 (.cons (.ref _) (rv.V7 (.keeps kp)))
 refine codeAny_mono this λ r s' p=>?_
 cases r with
 |error e=>exact p.elim
 |ok f=>
  cases f with
  |ret v=>
   intros p pv B9 hZ;generalize hZ.1=P4;obtain rfl:=P4.1;delta P4 P4 q;delta hZ hZ r S' x m
   cases r
   refine⟨rfl,.ref (hh.objs.size+1),B9,q,.ref _,S',(t1.trans t2).trans x,Sm.trans ⟨_,t,rfl⟩ m⟩
  |_=>exact p.elim
end
section
variable{W:Wd}{n:Nat}{ns:List (Option Str)}{env:Env}
theorem uF(hW:W.Ok){op:CmpOp}{x y:PV}{v u:Value}{A:Around}{s:Shared}{σ:PH}{c:Bool}{R:Value->Shared->Prop}(rm:Rm n A)(S:SR W σ s.heap)(rx:VR s.heap x v)(ry:VR s.heap y u)(h:iP σ op x y=some c)
  (hR:∀s',SR W σ s'.heap->kB σ s.heap σ s'.heap->Sm s s'->R (.bool c) s'):wpAny W.M A (compareOp op v u) R (λ _ _=>False) s:=
 I7 (vY (Q:=λ z B9=>z=.bool c∧B9=σ) hW rm S rx ry h ⟨rfl,rfl⟩) (λ z s' p=>by
  intros p pv B9 hZ;generalize hZ.1=P4;clear h S;obtain rfl:=P4.1;obtain rfl:=P4.2;try clear P4;delta hZ hZ r S' x' e'
  cases r
  exact hR s' S' x' e') λ _ _ e=>e
theorem Eh(hW:W.Ok){l r t:Expr}{op CQ:CmpOp}{pos:Pos}{f g k:T PV}(hl:Ev W n ns env l f)(hr:Ev W n ns env r g)(ht:Ev W n ns env t k)(LE:behindInMarks CQ t=false):
  Ev W n ns env (.Compare l [op,CQ] [r,t] pos) (λ ρ σ Q=>f ρ σ λ x B4=>g ρ B4 λ y H6=>∃c,iP H6 op x y=some c∧match c with
  |false=>Q (.bool false) H6
  |true=>k ρ H6 λ z R9=>∃c,iP R9 CQ y z=some c∧Q (.bool c) R9):=λ A s ρ σ Q rm S F h=>by
 show wpAny _ _ (do compareChain pos (<-eval l env) [op,CQ] [eval r env,markedBehindIn CQ t (eval t env)]) _ _ _
 rw[markedBehindIn_of_false LE]
 refine B6 (hl.bind rm S F h λ v I2 x B4 q Y0 N5 U4 W6 Y6=>?_)
 show wpAny _ _ (do
   let rv <-holding [v] (eval r env)
   standAt pos
   let c <-holding [v,rv] (compareOp op v rv)
   release [v,rv] [c]
   if <-holding [c,rv] (truthy c)then compareChain pos rv [CQ] [eval t env]else pure c) _ _ _
 refine B6 (K2 (hr.bind (A:=A) rm N5 U4 q λ u fC y H6 kZ sZ aQ pL cC iY=>?_))
 intros kZ c hZ;delta hZ hc kZ
 refine B6 (T9 (B6 (K2 (uF hW rm aQ (Y0.V7 (cC.V7 N5)) sZ hc λ aU eJ gR yG=>?_))))
 refine B6 (wpAny_release (B6 (K2 (kF ?_))))
 clear hc;cases c with
 |false=>
  rw[G0 C5]
  exact D4 ⟨.bool false,H6,kZ,.bool _,eJ,(W6.trans cC).trans gR,(Y6.trans iY).trans yG⟩
 |true=>
  rw[F7 rfl]
  show wpAny _ _ (do
   let rv <-holding [u] (eval t env)
   standAt pos
   operate [u,rv] (compareOp CQ u rv)) _ _ _
  refine B6 (K2 (ht.bind (A:=A) rm eJ (pL.eM aQ gR) kZ λ z LR pz mU GH Cc CL Yp uM YH=>?_))
  intros GH c hZ;delta hZ hc GH
  refine B6 (T9 (wpAny_operate' (uF hW rm CL ((sZ.V7 (gR.V7 aQ)).V7 (uM.V7 eJ)) Cc hc λ Bv Nd Iy Lq=>?_)))
  exact⟨.bool c,mU,GH,.bool _,Nd,(((W6.trans cC).trans gR).trans uM).trans Iy,(((Y6.trans iY).trans yG).trans YH).trans Lq⟩
theorem YS(hW:W.Ok){l r t:Expr}{op CQ:CmpOp}{pos:Pos}{f g k:T PV}(hl:Ev W n ns env l f)(hr:Ev W n ns env r g)(ht:Ev W n ns env t k)(LE:behindInMarks CQ t=false):
  FP W n ns env (.Compare l [op,CQ] [r,t] pos) (vN λ ρ σ Q=>f ρ σ λ x B4=>g ρ B4 λ y H6=>∃c,iP H6 op x y=some c∧match c with
  |false=>Q (.bool false) H6
  |true=>k ρ H6 λ z R9=>∃c,iP R9 CQ y z=some c∧Q (.bool c) R9).t:=λ A s ρ σ Q rm S F h=>by
 show wpAny _ _ (do testChain pos (<-eval l env) [op,CQ] [eval r env,markedBehindIn CQ t (eval t env)]) _ _ _
 rw[markedBehindIn_of_false LE]
 refine B6 (hl.bind rm S F h λ v I2 x B4 q Y0 N5 U4 W6 Y6=>?_)
 show wpAny _ _ (do
   let rv <-holding [v] (eval r env)
   standAt pos
   let c <-holding [v,rv] (compareOp op v rv)
   release [v,rv] [c]
   if <-holding [c,rv] (truthy c)then testChain pos rv [CQ] [eval t env]else pure false) _ _ _
 refine B6 (K2 (hr.bind (A:=A) rm N5 U4 q λ u fC y H6 kZ sZ aQ pL cC iY=>?_))
 intros kZ c hZ;delta hZ hc kZ
 refine B6 (T9 (B6 (K2 (uF hW rm aQ (Y0.V7 (cC.V7 N5)) sZ hc λ aU eJ gR yG=>?_))))
 refine B6 (wpAny_release (B6 (K2 (kF ?_))))
 clear hc;cases c with
 |false=>
  intros kZ b hZ;delta hZ hb kZ
  cases hb
  rw[G0 C5]
  exact D4 ⟨H6,kZ,eJ,(W6.trans cC).trans gR,(Y6.trans iY).trans yG⟩
 |true=>
  rw[F7 rfl]
  show wpAny _ _ (do
   let rv <-holding [u] (eval t env)
   standAt pos
   let c <-operate [u,rv] (compareOp CQ u rv)
   holding [c] (truthy c)) _ _ _
  refine B6 (K2 (ht.bind (A:=A) rm eJ (pL.eM aQ gR) kZ λ z LR pz mU GH Cc CL Yp uM YH=>?_))
  intros GH c hZ;generalize hZ.1=hc;refine A0 hZ.2 λ b P4=>?_;delta P4 hb GH;try clear hZ
  cases hb
  refine B6 (T9 (B6 (wpAny_operate' (uF hW rm CL ((sZ.V7 (gR.V7 aQ)).V7 (uM.V7 eJ)) Cc hc λ Bv Nd Iy Lq=>?_))))
  refine K2 (kF ?_)
  exact⟨mU,GH,Nd,(((W6.trans cC).trans gR).trans uM).trans Iy,(((Y6.trans iY).trans yG).trans YH).trans Lq⟩
theorem Eb{t elt iter:Expr}{ifs:List Expr}{scope:Scope}{pos p p':Pos}{k i:Nat}{x:Str}{wO:List Str}{fi:T PV}{fc:T Bool}{fe:T PV}
  (hW:W.Ok)(hE:U5 env)(sc:OJ scope env)(hk:(And (k=0) (wO.length=1))∨(And (k=wO.length) (0<k)))
  (nd:distinct (zB scope ns++wO.map some))
  (Be:∀cl C,Tg (zB scope ns++wO.map some) (compEnvC scope cl C env) true t k ((List.range wO.length).map (ns.length+·)))
  (hi:Ev W n ns env iter fi)
  (hc:∀cl C,U5 (compEnvC scope cl C env)->yJ W n (zB scope ns++wO.map some) (compEnvC scope cl C env) ifs fc)
  (he:∀cl C,U5 (compEnvC scope cl C env)->Ev W n (zB scope ns++wO.map some) (compEnvC scope cl C env) elt fe)
  (hs:∀x,foldedSetIterable iter env x=pure x)
  (hn:ns[i]? =some (some x))(hx:env.kindOf x=some .local∨(x≠("__class__":Str)∧env.kindOf x=some .cell)):
  Ex W n ns env (.Assign [.Name x p'] (.ListComp elt [⟨t,iter,ifs,0⟩] scope pos) p) (λ ρ σ Q=>(λ ρ σ Q=>fi ρ σ λ iv B4=>∃xs,mB B4 iv xs∧pD (M9 B4 iv) (λ x σ R=>∃ys,eH k x=some ys∧fc (ρ++ys) σ λ b B9=>match b with
    |true=>fe (ρ++ys) B9 λ y S7=>R (some y) S7
    |false=>R .none B9) xs [] B4 λ ys H6=>∀c,H6 c=none->Q (.ref c) (H6.set c (.list ys)):T PV) ρ σ λ v B4=>Q .next (ρ.set i v) B4):=by
 cases Zv:(env.blockKind==.function&&env.kindOf x==some .local&&p'.line==pos.line&&!(scope.names.any λ(n,k)=>n==x&&(k==.local||k==.cell)))with
 |false=>exact YM hE hn hx (by show(pure (env.blockKind==.function&&env.kindOf x==some .local&&p'.line==pos.line&&!(scope.names.any λ(n,k)=>n==x&&(k==.local||k==.cell))):Sem Bool)=_;rw[Zv]) (RC hW hE sc hk nd Be hi hc he hs)
 |true=>
  intro A s ρ σ Q rm S F h
  rw[exec_Assign_Name_used _ _ _ _ (by show(pure (env.blockKind==.function&&env.kindOf x==some .local&&p'.line==pos.line&&!(scope.names.any λ(n,k)=>n==x&&(k==.local||k==.cell))):Sem Bool)=_;rw[Zv])]
  refine B6 (T9 (B6 ?_))
  show wpAny _ A (do let _ <-comprehension (.ListComp elt [⟨t,iter,ifs,0⟩] scope pos) scope env _ (newList []) false (eval iter env) (some (assign (.Name x p') env))) _ _ s
  refine B6 (I7 (FH (use:=some (assign (.Name x p') env)) (Q':=λ _ s'=>CN W ns env σ s Q .next s') (Q:=λ v B4=>Q .next (ρ.set i v) B4) hW hE sc rm S F hk nd Be hi hc he hs h λ D C B9 s' y q F'=>?_) (λ _ s' hq=>D4 (D4 hq)) λ _ _ e=>e)
  show wpAny _ A (assign (.Name x p') env (.ref D)) _ _ _
  refine jZ (L:=false) hE y.sr F' hn (hx.imp id λ k=>⟨rfl,k⟩) (.ref D) λ h2 tk S2 F2 st=>?_
  refine A0 (y.ns) λ m hZ=>?_;intros hZ o Q0;intros Q0 es P4;intros P4 ep fT;generalize fT.1=ho;generalize fT.2=nR;delta nR hd hm;try clear fT
  have Kf:¬rK env C:=iK F y.cs
  have Lf:h2.get? C=some o:=(st.bN C o ho y.cn λ w=>Kf w.own).1
  refine⟨m,⟨o,es,ep,Lf,hd,hm⟩,λ h3 sb=>?_⟩
  have hZ:=S2.fJ y.cn y.cb Lf (by simp[cU,hd]) (SameBut.fJ sb);delta hZ S3 im
  refine⟨.next,_,B9,q,.next,S3,F2.fJ Kf (SameBut.fJ sb) im,⟨λ b o' e n w=>?_,y.eM.ID⟩,y.sm.trans ⟨h3,_,rfl⟩⟩
  have p1:=y.eM.bN b o' e n
  have p2:=st.bN b o' p1.1 p1.2 λ z=>w z.own
  exact⟨(sb.2 b (by clear F F' F2 S S2 S3 h hE hW hc hd he hi hk hm hn ho Lf hs Be hx ifs im iter k m n Kf nd o p p1 q rm sb sc st t tk wO w ρ;rintro rfl;rw[y.cs]at e;cases e)).trans p2.1,p2.2⟩
end
theorem dt{c:Prop}[Decidable c]{f:c->Bool}(h:(if h:c then f h else false)=true):c:=Decidable.byContradiction λ q=>C5 ((dif_neg q).symm.trans h)
theorem an{a b:Bool}(h:(a&&b)=true):a=true∧b=true:=⟨(F0.mp h).1,(F0.mp h).2⟩
def E.bool(e:Expr)(g:BoolOp->(List Expr)->Pos->Bool):Bool:=if h:e.ctorIdx=0 then Expr.BoolOp.elim (motive_1:=λ _=>Bool) e h λ o l p=>g o l p else false
theorem E.pW{P:Expr->Prop}{g:BoolOp->(List Expr)->Pos->Bool}(e:Expr)(h:E.bool e g=true)(q:∀o l p,g o l p=true->P (Expr.BoolOp o l p)):P e:=Expr.BoolOp.elim (motive_1:=λ e=>E.bool e g=true->P e) e (dt h) (λ o l p h=>q o l p h) h
def E.bin(e:Expr)(g:Expr->Operator->Expr->Pos->Bool):Bool:=if h:e.ctorIdx=2 then Expr.BinOp.elim (motive_1:=λ _=>Bool) e h λ l o r p=>g l o r p else false
theorem E.OD{P:Expr->Prop}{g:Expr->Operator->Expr->Pos->Bool}(e:Expr)(h:E.bin e g=true)(q:∀l o r p,g l o r p=true->P (Expr.BinOp l o r p)):P e:=Expr.BinOp.elim (motive_1:=λ e=>E.bin e g=true->P e) e (dt h) (λ l o r p h=>q l o r p h) h
def E.Ta(e:Expr)(g:UnaryOp->Expr->Pos->Bool):Bool:=if h:e.ctorIdx=3 then Expr.UnaryOp.elim (motive_1:=λ _=>Bool) e h λ o x p=>g o x p else false
theorem E.VJ{P:Expr->Prop}{g:UnaryOp->Expr->Pos->Bool}(e:Expr)(h:E.Ta e g=true)(q:∀o x p,g o x p=true->P (Expr.UnaryOp o x p)):P e:=Expr.UnaryOp.elim (motive_1:=λ e=>E.Ta e g=true->P e) e (dt h) (λ o x p h=>q o x p h) h
def E.ite(e:Expr)(g:Expr->Expr->Expr->Pos->Bool):Bool:=if h:e.ctorIdx=5 then Expr.IfExp.elim (motive_1:=λ _=>Bool) e h λ c a b p=>g c a b p else false
theorem E.NF{P:Expr->Prop}{g:Expr->Expr->Expr->Pos->Bool}(e:Expr)(h:E.ite e g=true)(q:∀c a b p,g c a b p=true->P (Expr.IfExp c a b p)):P e:=Expr.IfExp.elim (motive_1:=λ e=>E.ite e g=true->P e) e (dt h) (λ c a b p h=>q c a b p h) h
def E.dict(e:Expr)(g:(List (Option Expr))->(List Expr)->Pos->Bool):Bool:=if h:e.ctorIdx=6 then Expr.Dict.elim (motive_1:=λ _=>Bool) e h λ a b p=>g a b p else false
theorem E.Es{P:Expr->Prop}{g:(List (Option Expr))->(List Expr)->Pos->Bool}(e:Expr)(h:E.dict e g=true)(q:∀a b p,g a b p=true->P (Expr.Dict a b p)):P e:=Expr.Dict.elim (motive_1:=λ e=>E.dict e g=true->P e) e (dt h) (λ a b p h=>q a b p h) h
def E.comp(e:Expr)(g:Expr->(List Comprehension)->Scope->Pos->Bool):Bool:=if h:e.ctorIdx=8 then Expr.ListComp.elim (motive_1:=λ _=>Bool) e h λ x gs s p=>g x gs s p else false
theorem E.RO{P:Expr->Prop}{g:Expr->(List Comprehension)->Scope->Pos->Bool}(e:Expr)(h:E.comp e g=true)(q:∀x gs s p,g x gs s p=true->P (Expr.ListComp x gs s p)):P e:=Expr.ListComp.elim (motive_1:=λ e=>E.comp e g=true->P e) e (dt h) (λ x gs s p h=>q x gs s p h) h
def E.cmp(e:Expr)(g:Expr->(List CmpOp)->(List Expr)->Pos->Bool):Bool:=if h:e.ctorIdx=15 then Expr.Compare.elim (motive_1:=λ _=>Bool) e h λ l o r p=>g l o r p else false
theorem E.vY{P:Expr->Prop}{g:Expr->(List CmpOp)->(List Expr)->Pos->Bool}(e:Expr)(h:E.cmp e g=true)(q:∀l o r p,g l o r p=true->P (Expr.Compare l o r p)):P e:=Expr.Compare.elim (motive_1:=λ e=>E.cmp e g=true->P e) e (dt h) (λ l o r p h=>q l o r p h) h
def E.call(e:Expr)(g:Expr->(List Expr)->(List Keyword)->Pos->Bool):Bool:=if h:e.ctorIdx=16 then Expr.Call.elim (motive_1:=λ _=>Bool) e h λ f a k p=>g f a k p else false
theorem E.mJ{P:Expr->Prop}{g:Expr->(List Expr)->(List Keyword)->Pos->Bool}(e:Expr)(h:E.call e g=true)(q:∀f a k p,g f a k p=true->P (Expr.Call f a k p)):P e:=Expr.Call.elim (motive_1:=λ e=>E.call e g=true->P e) e (dt h) (λ f a k p h=>q f a k p h) h
def E.const(e:Expr)(g:Const->Nat->Pos->Bool):Bool:=if h:e.ctorIdx=19 then Expr.Constant.elim (motive_1:=λ _=>Bool) e h λ c k p=>g c k p else false
theorem E.uE{P:Expr->Prop}{g:Const->Nat->Pos->Bool}(e:Expr)(h:E.const e g=true)(q:∀c k p,g c k p=true->P (Expr.Constant c k p)):P e:=Expr.Constant.elim (motive_1:=λ e=>E.const e g=true->P e) e (dt h) (λ c k p h=>q c k p h) h
def E.attr(e:Expr)(g:Expr->Str->Pos->Bool):Bool:=if h:e.ctorIdx=20 then Expr.Attribute.elim (motive_1:=λ _=>Bool) e h λ o a p=>g o a p else false
theorem E.zE{P:Expr->Prop}{g:Expr->Str->Pos->Bool}(e:Expr)(h:E.attr e g=true)(q:∀o a p,g o a p=true->P (Expr.Attribute o a p)):P e:=Expr.Attribute.elim (motive_1:=λ e=>E.attr e g=true->P e) e (dt h) (λ o a p h=>q o a p h) h
def E.sub(e:Expr)(g:Expr->Expr->Pos->Bool):Bool:=if h:e.ctorIdx=21 then Expr.Subscript.elim (motive_1:=λ _=>Bool) e h λ o i p=>g o i p else false
theorem E.LV{P:Expr->Prop}{g:Expr->Expr->Pos->Bool}(e:Expr)(h:E.sub e g=true)(q:∀o i p,g o i p=true->P (Expr.Subscript o i p)):P e:=Expr.Subscript.elim (motive_1:=λ e=>E.sub e g=true->P e) e (dt h) (λ o i p h=>q o i p h) h
def E.name(e:Expr)(g:Str->Pos->Bool):Bool:=if h:e.ctorIdx=23 then Expr.Name.elim (motive_1:=λ _=>Bool) e h λ x p=>g x p else false
theorem E.cI{P:Expr->Prop}{g:Str->Pos->Bool}(e:Expr)(h:E.name e g=true)(q:∀x p,g x p=true->P (Expr.Name x p)):P e:=Expr.Name.elim (motive_1:=λ e=>E.name e g=true->P e) e (dt h) (λ x p h=>q x p h) h
def E.list(e:Expr)(g:(List Expr)->Pos->Bool):Bool:=if h:e.ctorIdx=24 then Expr.List.elim (motive_1:=λ _=>Bool) e h λ l p=>g l p else false
theorem E.Cr{P:Expr->Prop}{g:(List Expr)->Pos->Bool}(e:Expr)(h:E.list e g=true)(q:∀l p,g l p=true->P (Expr.List l p)):P e:=Expr.List.elim (motive_1:=λ e=>E.list e g=true->P e) e (dt h) (λ l p h=>q l p h) h
def E.tup(e:Expr)(g:(List Expr)->Nat->Pos->Bool):Bool:=if h:e.ctorIdx=25 then Expr.Tuple.elim (motive_1:=λ _=>Bool) e h λ l k p=>g l k p else false
theorem E.zH{P:Expr->Prop}{g:(List Expr)->Nat->Pos->Bool}(e:Expr)(h:E.tup e g=true)(q:∀l k p,g l k p=true->P (Expr.Tuple l k p)):P e:=Expr.Tuple.elim (motive_1:=λ e=>E.tup e g=true->P e) e (dt h) (λ l k p h=>q l k p h) h
def E.wP(e:Expr)(g:(Option Expr)->(Option Expr)->(Option Expr)->Pos->Bool):Bool:=if h:e.ctorIdx=26 then Expr.Slice.elim (motive_1:=λ _=>Bool) e h λ a b c p=>g a b c p else false
theorem E.Jk{P:Expr->Prop}{g:(Option Expr)->(Option Expr)->(Option Expr)->Pos->Bool}(e:Expr)(h:E.wP e g=true)(q:∀a b c p,g a b c p=true->P (Expr.Slice a b c p)):P e:=Expr.Slice.elim (motive_1:=λ e=>E.wP e g=true->P e) e (dt h) (λ a b c p h=>q a b c p h) h
def S.ret(e:Stmt)(g:(Option Expr)->Pos->Bool):Bool:=if h:e.ctorIdx=3 then Stmt.Return.elim (motive_2:=λ _=>Bool) e h λ v p=>g v p else false
theorem S.WG{P:Stmt->Prop}{g:(Option Expr)->Pos->Bool}(e:Stmt)(h:S.ret e g=true)(q:∀v p,g v p=true->P (Stmt.Return v p)):P e:=Stmt.Return.elim (motive_2:=λ e=>S.ret e g=true->P e) e (dt h) (λ v p h=>q v p h) h
def S.asg(e:Stmt)(g:(List Expr)->Expr->Pos->Bool):Bool:=if h:e.ctorIdx=5 then Stmt.Assign.elim (motive_2:=λ _=>Bool) e h λ t v p=>g t v p else false
theorem S.HT{P:Stmt->Prop}{g:(List Expr)->Expr->Pos->Bool}(e:Stmt)(h:S.asg e g=true)(q:∀t v p,g t v p=true->P (Stmt.Assign t v p)):P e:=Stmt.Assign.elim (motive_2:=λ e=>S.asg e g=true->P e) e (dt h) (λ t v p h=>q t v p h) h
def S.YB(e:Stmt)(g:Expr->Expr->(List Stmt)->(List Stmt)->Pos->Bool):Bool:=if h:e.ctorIdx=9 then Stmt.For.elim (motive_2:=λ _=>Bool) e h λ t i b o p=>g t i b o p else false
theorem S.HG{P:Stmt->Prop}{g:Expr->Expr->(List Stmt)->(List Stmt)->Pos->Bool}(e:Stmt)(h:S.YB e g=true)(q:∀t i b o p,g t i b o p=true->P (Stmt.For t i b o p)):P e:=Stmt.For.elim (motive_2:=λ e=>S.YB e g=true->P e) e (dt h) (λ t i b o p h=>q t i b o p h) h
def S.IA(e:Stmt)(g:Expr->(List Stmt)->(List Stmt)->Pos->Bool):Bool:=if h:e.ctorIdx=11 then Stmt.While.elim (motive_2:=λ _=>Bool) e h λ c b o p=>g c b o p else false
theorem S.Iz{P:Stmt->Prop}{g:Expr->(List Stmt)->(List Stmt)->Pos->Bool}(e:Stmt)(h:S.IA e g=true)(q:∀c b o p,g c b o p=true->P (Stmt.While c b o p)):P e:=Stmt.While.elim (motive_2:=λ e=>S.IA e g=true->P e) e (dt h) (λ c b o p h=>q c b o p h) h
def S.ite(e:Stmt)(g:Expr->(List Stmt)->(List Stmt)->Pos->Bool):Bool:=if h:e.ctorIdx=12 then Stmt.If.elim (motive_2:=λ _=>Bool) e h λ c a b p=>g c a b p else false
theorem S.NF{P:Stmt->Prop}{g:Expr->(List Stmt)->(List Stmt)->Pos->Bool}(e:Stmt)(h:S.ite e g=true)(q:∀c a b p,g c a b p=true->P (Stmt.If c a b p)):P e:=Stmt.If.elim (motive_2:=λ e=>S.ite e g=true->P e) e (dt h) (λ c a b p h=>q c a b p h) h
def S.expr(e:Stmt)(g:Expr->Pos->Bool):Bool:=if h:e.ctorIdx=24 then Stmt.Expr.elim (motive_2:=λ _=>Bool) e h λ e p=>g e p else false
theorem S.RA{P:Stmt->Prop}{g:Expr->Pos->Bool}(e:Stmt)(h:S.expr e g=true)(q:∀e p,g e p=true->P (Stmt.Expr e p)):P e:=Stmt.Expr.elim (motive_2:=λ e=>S.expr e g=true->P e) e (dt h) (λ e p h=>q e p h) h
def S.pass(e:Stmt)(g:Pos->Bool):Bool:=if h:e.ctorIdx=25 then Stmt.Pass.elim (motive_2:=λ _=>Bool) e h λ p=>g p else false
theorem S.Cg{P:Stmt->Prop}{g:Pos->Bool}(e:Stmt)(h:S.pass e g=true)(q:∀p,g p=true->P (Stmt.Pass p)):P e:=Stmt.Pass.elim (motive_2:=λ e=>S.pass e g=true->P e) e (dt h) (λ p h=>q p h) h
def S.cont(e:Stmt)(g:Pos->Bool):Bool:=if h:e.ctorIdx=27 then Stmt.Continue.elim (motive_2:=λ _=>Bool) e h λ p=>g p else false
theorem S.Ez{P:Stmt->Prop}{g:Pos->Bool}(e:Stmt)(h:S.cont e g=true)(q:∀p,g p=true->P (Stmt.Continue p)):P e:=Stmt.Continue.elim (motive_2:=λ e=>S.cont e g=true->P e) e (dt h) (λ p h=>q p h) h
def C.none(e:Const):Bool:=e.ctorIdx==0
theorem C.yS{P:Const->Prop}(e:Const)(h:C.none e=true)(q:P Const.none):P e:=Const.none.elim (motive:=λ e=>P e) e (eq_of_beq h) q
def C.bool(e:Const)(g:Bool->Bool):Bool:=if h:e.ctorIdx=1 then Const.bool.elim (motive:=λ _=>Bool) e h λ b=>g b else false
theorem C.pW{P:Const->Prop}{g:Bool->Bool}(e:Const)(h:C.bool e g=true)(q:∀b,g b=true->P (Const.bool b)):P e:=Const.bool.elim (motive:=λ e=>C.bool e g=true->P e) e (dt h) (λ b h=>q b h) h
def C.int(e:Const)(g:Int->Bool):Bool:=if h:e.ctorIdx=2 then Const.int.elim (motive:=λ _=>Bool) e h λ i=>g i else false
theorem C.oZ{P:Const->Prop}{g:Int->Bool}(e:Const)(h:C.int e g=true)(q:∀i,g i=true->P (Const.int i)):P e:=Const.int.elim (motive:=λ e=>C.int e g=true->P e) e (dt h) (λ i h=>q i h) h
def C.str(e:Const)(g:Str->Bool):Bool:=if h:e.ctorIdx=5 then Const.str.elim (motive:=λ _=>Bool) e h λ s=>g s else false
theorem C.zN{P:Const->Prop}{g:Str->Bool}(e:Const)(h:C.str e g=true)(q:∀s,g s=true->P (Const.str s)):P e:=Const.str.elim (motive:=λ e=>C.str e g=true->P e) e (dt h) (λ s h=>q s h) h
def V.none(e:Value):Bool:=e.ctorIdx==0
theorem V.yS{P:Value->Prop}(e:Value)(h:V.none e=true)(q:P Value.none):P e:=Value.none.elim (motive:=λ e=>P e) e (eq_of_beq h) q
def V.bool(e:Value)(g:Bool->Bool):Bool:=if h:e.ctorIdx=3 then Value.bool.elim (motive:=λ _=>Bool) e h λ b=>g b else false
theorem V.pW{P:Value->Prop}{g:Bool->Bool}(e:Value)(h:V.bool e g=true)(q:∀b,g b=true->P (Value.bool b)):P e:=Value.bool.elim (motive:=λ e=>V.bool e g=true->P e) e (dt h) (λ b h=>q b h) h
def V.int(e:Value)(g:Int->Tok->Bool):Bool:=if h:e.ctorIdx=4 then Value.int.elim (motive:=λ _=>Bool) e h λ i t=>g i t else false
theorem V.oZ{P:Value->Prop}{g:Int->Tok->Bool}(e:Value)(h:V.int e g=true)(q:∀i t,g i t=true->P (Value.int i t)):P e:=Value.int.elim (motive:=λ e=>V.int e g=true->P e) e (dt h) (λ i t h=>q i t h) h
def V.str(e:Value)(g:Str->Tok->Bool):Bool:=if h:e.ctorIdx=6 then Value.str.elim (motive:=λ _=>Bool) e h λ s t=>g s t else false
theorem V.zN{P:Value->Prop}{g:Str->Tok->Bool}(e:Value)(h:V.str e g=true)(q:∀s t,g s t=true->P (Value.str s t)):P e:=Value.str.elim (motive:=λ e=>V.str e g=true->P e) e (dt h) (λ s t h=>q s t h) h
def V.typ(e:Value)(g:String->Bool):Bool:=if h:e.ctorIdx=8 then Value.type.elim (motive:=λ _=>Bool) e h λ s=>g s else false
theorem V.FU{P:Value->Prop}{g:String->Bool}(e:Value)(h:V.typ e g=true)(q:∀s,g s=true->P (Value.type s)):P e:=Value.type.elim (motive:=λ e=>V.typ e g=true->P e) e (dt h) (λ s h=>q s h) h
def V.blt(e:Value)(g:String->Bool):Bool:=if h:e.ctorIdx=9 then Value.builtin.elim (motive:=λ _=>Bool) e h λ s=>g s else false
theorem V.CB{P:Value->Prop}{g:String->Bool}(e:Value)(h:V.blt e g=true)(q:∀s,g s=true->P (Value.builtin s)):P e:=Value.builtin.elim (motive:=λ e=>V.blt e g=true->P e) e (dt h) (λ s h=>q s h) h
def V.ref(e:Value)(g:Addr->Bool):Bool:=if h:e.ctorIdx=10 then Value.ref.elim (motive:=λ _=>Bool) e h λ a=>g a else false
theorem V.vA{P:Value->Prop}{g:Addr->Bool}(e:Value)(h:V.ref e g=true)(q:∀a,g a=true->P (Value.ref a)):P e:=Value.ref.elim (motive:=λ e=>V.ref e g=true->P e) e (dt h) (λ a h=>q a h) h
section
variable{α:Type}{P:List α->Prop}
def LN(l:List α):Bool:=l.isEmpty
def LC(l:List α)(f:α->List α->Bool):Bool:=List.rec (motive:=λ _=>Bool) false (λ x r _=>f x r) l
theorem iR{f:α->List α->Bool}(l:List α)(h:LC l f=true)(q:∀x r,f x r=true->P (x::r)):P l:=List.rec (motive:=λ l=>LC l f=true->P l) (λ h=>(C5 h).elim) (λ x r _ h=>q x r h) l h
theorem cQ(l:List α)(h:LN l=true)(q:P []):P l:=List.rec (motive:=λ l=>LN l=true->P l) (λ _=>q) (λ x r _ h=>(C5 h).elim) l h
def L1(l:List α)(f:α->Bool):Bool:=LC l λ x r=>LN r&&f x
theorem lL{f:α->Bool}(l:List α)(h:L1 l f=true)(q:∀x,f x=true->P [x]):P l:=iR l h λ x r h=>cQ (P:=λ r=>P (x::r)) r (an h).1 (q x (an h).2)
def L2(l:List α)(f:α->α->Bool):Bool:=LC l λ x r=>L1 r (f x)
theorem SI{f:α->α->Bool}(l:List α)(h:L2 l f=true)(q:∀x y,f x y=true->P [x,y]):P l:=iR l h λ x r h=>lL (P:=λ r=>P (x::r)) r h (q x)
end
section
variable{α:Type}{P:Option α->Prop}
def ON(o:Option α):Bool:=Option.rec (motive:=λ _=>Bool) true (λ _=>false) o
def OS(o:Option α)(f:α->Bool):Bool:=Option.rec (motive:=λ _=>Bool) false f o
theorem Au(o:Option α)(h:ON o=true)(q:P none):P o:=Option.rec (motive:=λ o=>ON o=true->P o) (λ _=>q) (λ _ h=>(C5 h).elim) o h
theorem iQ{f:α->Bool}(o:Option α)(h:OS o f=true)(q:∀x,f x=true->P (some x)):P o:=Option.rec (motive:=λ o=>OS o f=true->P o) (λ h=>(C5 h).elim) (λ x h=>q x h) o h
end
def gT:List Str->List Value->Bool
 |[],vs=>LN vs
 |a::r,vs=>LC vs λ v q=>V.str v (λ b _=>a==b&&decide (b.length<=1000))&&gT r q
theorem LS{n:Nat}(h:decide (n<=1000)=true):n<=sizeLine:=by rw[K0];exact A9 (D0 h) (by decide)
theorem BS{h:Heap}:∀{ds:List Str} {vs:List Value},gT ds vs=true->bO h (ds.map .str) vs
 |[],vs,e=>cQ (P:=λ vs=>bO h [] vs) vs e .nil
 |a::r,vs,e=>iR (P:=λ vs=>bO h (.str a::r.map .str) vs) vs e λ v q e=>.cons (V.zN (P:=λ v=>VR h (.str a) v) v (an e).1 λ b t e=>eq_of_beq (an e).1▸.str _ _ (LS (eq_of_beq (an e).1▸(an e).2))) (BS (an e).2)
def DZ(f v:Value):Bool:=V.ref f (λ a=>V.ref v λ b=>Nat.beq a b)||(V.blt f (λ s=>V.blt v λ t=>s==t)||V.typ f λ s=>V.typ v λ t=>s==t)
theorem IQ{P:Value->Value->Prop}{f v:Value}(h:DZ f v=true)(k1:∀a,P (.ref a) (.ref a))(k2:∀s,P (.builtin s) (.builtin s))(k3:∀s,P (.type s) (.type s)):P f v:=
 (N0.mp h).elim (λ h=>V.vA (P:=λ f=>P f v) f h λ a h=>V.vA (P:=P _) v h λ b h=>X8 h▸k1 a) λ h=>(N0.mp h).elim
  (λ h=>V.CB (P:=λ f=>P f v) f h λ a h=>V.CB (P:=P _) v h λ b h=>eq_of_beq h▸k2 a) (λ h=>V.FU (P:=λ f=>P f v) f h λ a h=>V.FU (P:=P _) v h λ b h=>eq_of_beq h▸k3 a)
theorem zQ{f g:Value}(h:DZ f g=true):f=g:=IQ (P:=λ f g=>f=g) h (λ _=>rfl) (λ _=>rfl) λ _=>rfl
abbrev GE:=Str×Value×List String
structure wK(W:Wd)(gt:List GE):Prop where
 is:∀(k:Nat) x v l,gt[k]? =some (x,v,l)->pK W x v
 keep:∀(k:Nat) x a,gt[k]? =some (x,.ref a,[])->keepIn W.K (.ref a)=true
 tup:∀(k:Nat) x v l,gt[k]? =some (x,v,l)->l≠[]->∃t vs d m sl,v=.ref t∧W.K.lookup t=some ⟨.type "tuple",d,.seq (List.toArray vs) m,sl⟩∧gT (l.map Str.ofString) vs=true
theorem wK.Ko{W:Wd}{gt:List GE}(G:wK W gt){k:Nat}{x:Str}{f v:Value}(e:DZ f v=true):gt[k]? =some (x,v,[])->mP W f:=
 IQ (P:=λ f v=>gt[k]? =some (x,v,[])->mP W f) e (λ a h=>.ref (G.keep k x a h)) (λ _ _=>.builtin _) λ _ _=>.type _
def GA(gt:List GE)(k:Nat)(f:Str->Value->List String->Bool):Bool:=OS gt[k]? λ g=>f g.1 g.2.1 g.2.2
theorem SJ{P:Prop}{gt:List GE}{k:Nat}{f:Str->Value->List String->Bool}(h:GA gt k f=true)(q:∀x v l,gt[k]? =some (x,v,l)->f x v l=true->P):P:=
 iQ (P:=λ o=>gt[k]? =o->P) _ h (λ g h e=>q g.1 g.2.1 g.2.2 e h) rfl
def namesOf:List Expr->(List Str->Bool)->Bool
 |[],f=>f []
 |e::r,f=>E.name e λ x _=>namesOf r λ l=>f (x::l)
inductive Bn:List Expr->List Str->Prop
 |nil:Bn [] []
 |cons {x:Str} {p:Pos} {r:List Expr} {l:List Str}:Bn r l->Bn (.Name x p::r) (x::l)
theorem lY{P:Prop}:∀{es:List Expr} {f:List Str->Bool},namesOf es f=true->(∀l,Bn es l->f l=true->P)->P
 |[],_,h,q=>q [] .nil h
 |e::r,f,h,q=>E.cI (P:=λ e=>(∀l,Bn (e::r) l->f l=true->P)->P) e h (λ x p h q=>lY h λ l m h=>q (x::l) (.cons m) h) q
theorem Bn.len{es:List Expr}{l:List Str}(h:Bn es l):l.length=es.length:=by
 induction h with
 |nil=>rfl
 |cons _ ih=>exact C7 (·+1) ih
def PB(k:Nat)(t:Expr)(f:List Str->Bool):Bool:=match k with
 |0=>E.name t λ x _=>f [x]
 |k+1=>E.tup t λ es _ _=>Nat.beq es.length (k+1)&&namesOf es f
def VZ(nm:List (Str×NameKind))(sc:Scope):Bool:=
 sc.kind==.function&&(!sc.isGenerator&&(!sc.isCoroutine&&(sc.names.all (λ x=>x.2 !=.cell&&sc.names.lookup x.1==some x.2)&&
  sc.names.all (λ x=>x.2 !=.free||(x.1 !=("__class__":Str)&&(nm.lookup x.1==some .cell||nm.lookup x.1==some .free))))))
def MD(nm l:List (Str×NameKind)):List (Str×NameKind):=l.map λ(n,k)=>if(k==.free&&nm.lookup n==some .cell)=true then(n,.cell)else(n,k)
def Mh:List (Option Str)->Bool
 |[]=>true
 |o::r=>(ON o||!r.contains o)&&Mh r
theorem HJ:∀{l:List (Option Str)},Mh l=true->distinct l
 |[],_=>λ i j x h _=>nomatch h
 |o::r,h=>λ i j x h1 h2=>by
  have ne:∀k:Nat,o=some x->r[k]? ≠some (some x):=λ k q e=>by
   clear h2 h1;subst q
   have c:r.contains (some x)=true:=jD.mpr (B5 e)
   have:=(an h).1
   rw[c]at this;cases this
  match i,j with
  |0,0=>rfl
  |0,j+1=>exact absurd h2 (ne j (H1 h1))
  |i+1,0=>exact absurd h1 (ne i (H1 h2))
  |i+1,j+1=>exact C7 (·+1) (HJ (an h).2 i j x h1 h2)
def GS(e:Expr):Bool:=!(e.ctorIdx==7)
theorem pS{e:Expr}(h:GS e=true)(env:Env)(x:Value):foldedSetIterable e env x=pure x:=by
 cases e<;>first|rfl|cases h
def yR(e:Expr):Bool:=!(e.ctorIdx==8)&&(!(e.ctorIdx==9)&&!(e.ctorIdx==10))
def tU(ns:List (Option Str))(i:Nat)(x:Str):Bool:=ns[i]? ==some (some x)
theorem fS{ns:List (Option Str)}{i:Nat}{x:Str}(h:tU ns i x=true):ns[i]? =some (some x):=eq_of_beq h
def yX(e:PE):Bool:=if h:e.ctorIdx=1 then PE.bool.elim (motive_1:=λ _=>Bool) e h id else false
theorem NH{P:PE->Prop}(e:PE)(h:yX e=true)(q:P (.bool true)):P e:=PE.bool.elim (motive_1:=λ e=>yX e=true->P e) e (dt h) (λ b h=>(show b=true from h)▸q) h
def tY(e:PE):Bool:=e.ctorIdx==10
theorem JR{P:PE->Prop}(e:PE)(h:tY e=true)(q:P .absent):P e:=PE.absent.elim (motive_1:=λ e=>P e) e (eq_of_beq h) q
def Vv(x:Str):Bool:=!(x==("__debug__":Str))
def Xp(nm:List (Str×NameKind))(x:Str):Bool:=nm.lookup x==some .globalImplicit&&Vv x
def AX(o:Expr):Bool:=!(E.call o λ f xs ks _=>LN xs&&(LN ks&&E.name f λ x _=>x=="super"))
theorem xE{o:Expr}(h:AX o=true):NS o:=by
 intro attr env whole
 cases o<;>first|rfl|skip
 cases func<;>first|rfl|skip
 cases args<;>first|rfl|skip
 cases keywords<;>first|rfl|skip
 have h:(id !="super")=true:=h
 delta attributeBase
 dsimp only
 rw[h];simp
set_option smartUnfolding false in
mutual
noncomputable def mE(gt:List GE):PE->List (Option Str)->List (Str×NameKind)->Expr->Bool
 |.none,_,_,e=>E.const e λ c _ _=>C.none c
 |.bool b,_,_,e=>E.const e λ c _ _=>C.bool c λ x=>b==x
 |.int i,_,_,e=>E.const e λ c _ _=>C.int c λ x=>i==x
 |.str s,_,_,e=>E.const e λ c _ _=>C.str c λ x=>Str.ofString s==x&&decide (x.length<=1000)
 |.loc i,ns,_,e=>E.name e λ x _=>tU ns i x&&(Vv x&&!(x==("__classdict__":Str)))
 |.gi k i,_,nm,e=>E.name e λ x _=>Xp nm x&&GA gt k λ y v _=>y==x&&V.int v λ j _=>i==j
 |.gs k l,_,nm,e=>E.name e λ x _=>Xp nm x&&(!l.isEmpty&&(decide (l.length<=1000)&&GA gt k λ y _ l'=>y==x&&l'==l))
 |.attr o f,ns,nm,e=>E.attr e λ x a _=>a==Str.ofString f&&(AX x&&mE gt o ns nm x)
 |.sub o i,ns,nm,e=>E.sub e λ x y _=>mE gt o ns nm x&&mE gt i ns nm y
 |.wP o lo hi,ns,nm,e=>E.sub e λ x y _=>E.wP y λ l u s _=>ON s&&(mE gt o ns nm x&&(Option.rec (motive:=λ _=>Bool) (tY lo) (λ e=>mE gt lo ns nm e) l&&Option.rec (motive:=λ _=>Bool) (tY hi) (λ e=>mE gt hi ns nm e) u))
 |.absent,_,_,_=>false
 |.bin op a b,ns,nm,e=>E.bin e λ l o r _=>o==op&&(mE gt a ns nm l&&mE gt b ns nm r)
 |.neg a,ns,nm,e=>E.Ta e λ o x _=>o==.USub&&mE gt a ns nm x
 |.cmp op a b,ns,nm,e=>E.cmp e λ l os rs _=>L1 os λ o=>L1 rs λ r=>o==op&&(!behindInMarks o r&&(mE gt a ns nm l&&mE gt b ns nm r))
 |.KE Pw Pv a b c,ns,nm,e=>E.cmp e λ l os rs _=>L2 os λ o1 o2=>L2 rs λ r t=>o1==Pw&&(o2==Pv&&(!behindInMarks o2 t&&(mE gt a ns nm l&&(mE gt b ns nm r&&mE gt c ns nm t))))
 |.not a,ns,nm,e=>E.Ta e λ o x _=>o==.Not&&mE gt a ns nm x
 |.and a b,ns,nm,e=>E.bool e λ o l p=>o==.And&&LC l λ x r=>mE gt a ns nm x&&LC r λ y q=>if q.isEmpty then mE gt b ns nm y else mE gt b ns nm (.BoolOp .And r p)
 |.or a b,ns,nm,e=>E.bool e λ o l p=>o==.Or&&LC l λ x r=>mE gt a ns nm x&&LC r λ y q=>if q.isEmpty then mE gt b ns nm y else mE gt b ns nm (.BoolOp .Or r p)
 |.ite c a b,ns,nm,e=>E.ite e λ x y z _=>mE gt c ns nm x&&(mE gt a ns nm y&&mE gt b ns nm z)
 |.tup es,ns,nm,e=>E.tup e λ xs _ _=>decide (xs.length<=1000)&&Hm gt es ns nm xs
 |.list es,ns,nm,e=>E.list e λ xs _=>decide (xs.length<=1000)&&Hm gt es ns nm xs
 |.dO,_,_,e=>E.dict e λ a b _=>LN a&&LN b
 |.call k f args,ns,nm,e=>E.call e λ x xs ks _=>LN ks&&E.name x λ x _=>Xp nm x&&(Hm gt args ns nm xs&&GA gt k λ y v l=>y==x&&(LN l&&DZ f v))
 |.H2 o f args,ns,nm,e=>E.call e λ x xs ks pos=>LN ks&&E.attr x λ x a ap=>a==Str.ofString f&&(AX x&&(ap.endLine==pos.line&&(decide (xs.length<20)&&(mE gt o ns nm x&&Hm gt args ns nm xs))))
 |.sup _ _,_,_,_=>false
 |.comp elt tg it cond,ns,nm,e=>E.comp e λ x gs sc _=>L1 gs λ g=>g.is_async==0&&(VZ nm sc&&PB tg g.target λ tn=>tn.all (λ y=>sc.names.lookup y==some .local)&&(Mh (zB sc ns++tn.map some)&&(GS g.iter&&(mE gt it ns nm g.iter&&
   (mE gt elt (zB sc ns++tn.map some) (MD nm sc.names) x&&(LN g.ifs&&yX cond||L1 g.ifs λ c=>mE gt cond (zB sc ns++tn.map some) (MD nm sc.names) c))))))
 |.any,_,_,_=>false
noncomputable def Hm(gt:List GE):uL->List (Option Str)->List (Str×NameKind)->List Expr->Bool
 |.nil,_,_,es=>LN es
 |.cons p r,ns,nm,es=>LC es λ e q=>rG e&&(mE gt p ns nm e&&Hm gt r ns nm q)
end
structure cM(W:Wd)(n:Nat)(ns:List (Option Str))(env:Env)(e:Expr)(w:WP):Prop where
 v:Ev W n ns env e w.v
 t:FP W n ns env e w.t
theorem cM.of{W:Wd}{n:Nat}{ns:List (Option Str)}{env:Env}{e:Expr}{f:T PV}(he:Ev W n ns env e f)(hw:∀whole,isTrue e env whole=(do let v <-whole;standAt e.pos;holding [v] (truthy v))):cM W n ns env e (vN f):=⟨he,Mf he hw⟩
theorem Bn.Yy{ns:List (Option Str)}{env:Env}{L:Bool}{es:List Expr}{tn:List Str}(h:Bn es tn):∀{is:List Nat},is.length=tn.length->(∀(j:Nat) (i:Nat) (x:Str),is[j]? =some i->tn[j]? =some x->ns[i]? =some (some x))->
  (∀x∈tn,env.kindOf x=some .local∨(L=false∧(x≠("__class__":Str)∧env.kindOf x=some .cell)))->Ap ns env L es is:=by
 induction h with
 |nil=>exact λ{is} hl _ _=>kK hl▸.nil
 |cons _ ih=>exact λ{is}=>match is with
  |[]=>λ hl=>nomatch hl
  |i::is=>λ hl hn hk=>.cons (hn 0 i _ rfl rfl) (hk _ (.head _)) (ih (Nat.succ.inj hl) (λ j i x a b=>hn (j+1) i x a b) λ x hx=>hk x (.tail _ hx))
structure Up(t:Expr)(k:Nat)(tn:List Str):Prop where
 sz:(And (k=0) (tn.length=1))∨(And (k=tn.length) (0<k))
 tg:∀{ns:List (Option Str)} {env:Env} {L:Bool} {is:List Nat},is.length=tn.length->(∀(j:Nat) (i:Nat) (x:Str),is[j]? =some i->tn[j]? =some x->ns[i]? =some (some x))->
  (∀x∈tn,env.kindOf x=some .local∨(L=false∧(x≠("__class__":Str)∧env.kindOf x=some .cell)))->Tg ns env L t k is
theorem zK{P:Prop}{f:List Str->Bool}(t:Expr):∀{k:Nat},PB k t f=true->(∀tn,Up t k tn->f tn=true->P)->P
 |0,h,q=>E.cI (P:=λ t=>(∀tn,Up t 0 tn->f tn=true->P)->P) t h (λ x p h q=>q [x] ⟨.inl ⟨rfl,rfl⟩,λ{ns env L is} hl hn hk=>match is,hl with
   |[i],_=>.one (hn 0 i _ rfl rfl) (hk _ (.head _))⟩ h) q
 |k+1,h,q=>E.zH (P:=λ t=>(∀tn,Up t (k+1) tn->f tn=true->P)->P) t h (λ es c p h q=>
   have hl:=X8 (an h).1
   lY (an h).2 λ tn m h=>q tn ⟨.inr ⟨hl.symm.trans m.len.symm,eO _⟩,λ a b c=>.tup (m.Yy a b c) hl⟩ h) q
theorem DX{nm:List (Str×NameKind)}{sc:Scope}{env:Env}(h:VZ nm sc=true)(hn:∀x,env.kindOf x=nm.lookup x):OJ sc env:=by
 have h2:=an (an h).2
 have h3:=an h2.2
 have h4:=an h3.2
 refine⟨eq_of_beq (an h).1,dJ _|>.mp h2.1,dJ _|>.mp h3.1,λ x hx=>?_,λ x hx=>?_⟩
 ·have:=an (G3.mp h4.1 x hx)
  exact⟨bG.mp this.1,eq_of_beq this.2⟩
 ·refine(N0.mp (G3.mp h4.2 _ hx)).elim (λ h=>absurd rfl (bG.mp h)) λ h=>⟨bG.mp (an h).1,?_⟩
  rw[hn]
  exact(N0.mp (an h).2).imp eq_of_beq eq_of_beq
theorem pP{nm:List (Str×NameKind)}{sc:Scope}{env:Env}{cl:List (Str×Addr)}{C:Addr}(hE:U5 env)(hn:∀x,env.kindOf x=nm.lookup x)(x:Str):(compEnvC sc cl C env).kindOf x=(MD nm sc.names).lookup x:=by
 have e:(compEnvC sc cl C env).kindOf x=(sc.names.lookup x).map (uZ env x):=eA _
 rw[e,<-eA]
 refine C7 (List.lookup x) (P1 λ p _=>?_)
 obtain⟨m,k⟩:=p
 dsimp only
 rw[hE.kind,hn m,show(ScopeKind.function==ScopeKind.function)=true from rfl,Bool.and_true]
section
variable{W:Wd}{n:Nat}{tb:fL}{gt:List GE}
theorem EX{ns:List (Option Str)}{env:Env}(cond:PE)(h:yX cond=true):yJ W n ns env [] (wp W tb n cond).t:=
 NH (P:=λ cond=>yJ W n ns env [] (wp W tb n cond).t) cond h λ A s ρ σ Q rm S F q=>by
  refine A0 ((show ∃b,zI σ (.bool true)=some b∧Q b σ from q)) λ b hZ=>?_;delta hZ hb q
  cases hb
  exact YQ A s ρ σ Q rm S F q
theorem FF{sc:Scope}{ns:List (Option Str)}{env:Env}{t:Expr}{tg:Nat}{tn:List Str}(hT:Up t tg tn)(h3:tn.all (λ y=>sc.names.lookup y==some .local)=true)(cl:List (Str×Addr))(C:Addr):
  Tg (zB sc ns++tn.map some) (compEnvC sc cl C env) true t tg ((List.range tn.length).map (ns.length+·)):=by
 refine hT.tg (by rw[A8,D9]) (λ j i x a b=>?_) λ x hx=>.inl (TZ (eq_of_beq (G3.mp h3 x hx)))
 rw[H9,bW (D3.mp b).1]at a
 have lc:(zB sc ns).length=ns.length:=by unfold zB;rw[A8]
 rw[<-H1 a,N2 (lc▸J6 _ _),lc,W0,H9,b];rfl
theorem GT{x:Str}(h:Vv x=true):(x==("__debug__":Str))=false:=dJ _|>.mp h
theorem AW{b:Bool}(h:(!b)=true):b=false:=dJ _|>.mp h
mutual
theorem S9(hW:W.Ok)(hT:W.jK tb)(G:wK W gt):∀(p:PE) (ns:List (Option Str)) (nm:List (Str×NameKind)) (e:Expr),mE gt p ns nm e=true->∀env,U5 env->(∀x,env.kindOf x=nm.lookup x)->cM W n ns env e (wp W tb n p)
 |.none,ns,nm,e,h,env,hE,hn=>E.uE (P:=λ e=>cM W n ns env e (wp W tb n .none)) e h λ c k p h=>C.yS (P:=λ c=>cM W n ns env (.Constant c k p) (wp W tb n .none)) c h (cM.of Ee λ _=>rfl)
 |.bool b,ns,nm,e,h,env,hE,hn=>E.uE (P:=λ e=>cM W n ns env e (wp W tb n (.bool b))) e h λ c k p h=>C.pW (P:=λ c=>cM W n ns env (.Constant c k p) (wp W tb n (.bool b))) c h λ x h=>eq_of_beq h▸cM.of Ej λ _=>rfl
 |.int i,ns,nm,e,h,env,hE,hn=>E.uE (P:=λ e=>cM W n ns env e (wp W tb n (.int i))) e h λ c k p h=>C.oZ (P:=λ c=>cM W n ns env (.Constant c k p) (wp W tb n (.int i))) c h λ x h=>eq_of_beq h▸cM.of Mc λ _=>rfl
 |.str s,ns,nm,e,h,env,hE,hn=>E.uE (P:=λ e=>cM W n ns env e (wp W tb n (.str s))) e h λ c k p h=>C.zN (P:=λ c=>cM W n ns env (.Constant c k p) (wp W tb n (.str s))) c h λ x h=>by
  obtain rfl:=eq_of_beq (an h).1
  exact cM.of (Lw (LS (an h).2)) λ _=>rfl
 |.loc i,ns,nm,e,h,env,hE,hn=>E.cI (P:=λ e=>cM W n ns env e (wp W tb n (.loc i))) e h λ x p h=>cM.of (Ma hE (fS (an h).1) (GT (an (an h).2).1) (AW (an (an h).2).2)) λ _=>rfl
 |.gi k i,ns,nm,e,h,env,hE,hn=>E.cI (P:=λ e=>cM W n ns env e (wp W tb n (.gi k i))) e h λ x p h=>SJ (an h).2 λ y v l hk h2=>by
  obtain rfl:=eq_of_beq (an h2).1
  exact V.oZ (P:=λ v=>gt[k]? =some (y,v,l)->cM W n ns env (.Name y p) (wp W tb n (.gi k i))) v (an h2).2 (λ j t h3 hk=>by
   obtain rfl:=eq_of_beq h3
   exact cM.of (Ru hW hE ((hn y).trans (eq_of_beq (an (an h).1).1)) (GT (an (an h).1).2) (G.is k _ _ _ hk)) λ _=>rfl) hk
 |.gs k l,ns,nm,e,h,env,hE,hn=>E.cI (P:=λ e=>cM W n ns env e (wp W tb n (.gs k l))) e h λ x p h=>SJ (an (an (an h).2).2).2 λ y v l' hk h2=>by
  obtain rfl:=eq_of_beq (an h2).1
  obtain rfl:=eq_of_beq (an h2).2
  have h3:=an (an h).2
  obtain⟨t,vs,d,m,sl,rfl,ht,hc⟩:=G.tup k _ _ _ hk λ q=>by rw[q]at h3;exact C5 h3.1
  exact cM.of (λ A s ρ σ Q rm S F q=>hW.glob hE ((hn y).trans (eq_of_beq (an (an h).1).1)) (GT (an (an h).1).2) S (G.is k _ _ _ hk) ⟨_,σ,q,by
   have r:=BS (h:=s.heap) hc
   rw[G2]at r
   exact .tup ⟨_,hW.IB.keeps S.keep _ _ ht,rfl,m,rfl⟩ r (by rw[A8];exact A9 (D0 (an h3.2).1) (by decide)),S,.refl _ _,.refl _⟩) λ _=>rfl
 |.attr o f,ns,nm,e,h,env,hE,hn=>E.zE (P:=λ e=>cM W n ns env e (wp W tb n (.attr o f))) e h λ x a p h=>cM.of (Ek hW (eq_of_beq (an h).1) (xE (an (an h).2).1) (S9 hW hT G o ns nm _ (an (an h).2).2 env hE hn).v) λ _=>rfl
 |.sub o i,ns,nm,e,h,env,hE,hn=>E.LV (P:=λ e=>cM W n ns env e (wp W tb n (.sub o i))) e h λ x y p h=>cM.of (Lv (S9 hW hT G o ns nm _ (an h).1 env hE hn).v (S9 hW hT G i ns nm _ (an h).2 env hE hn).v) λ _=>rfl
 |.wP o lo hi,ns,nm,e,h,env,hE,hn=>E.LV (P:=λ e=>cM W n ns env e (wp W tb n (.wP o lo hi))) e h λ x y p h=>E.Jk (P:=λ y=>cM W n ns env (.Subscript x y p) (wp W tb n (.wP o lo hi))) y h λ l u s p' h=>by
  have part:∀(q:PE) (o:Option Expr),(∀x,mE gt q ns nm x=true->cM W n ns env x (wp W tb n q))->Option.rec (motive:=λ _=>Bool) (tY q) (λ e=>mE gt q ns nm e) o=true->Og W n ns env o (wp W tb n q).v:=λ q o ih hq=>match o,hq with
   |some x,hq=>YT (ih x hq).v
   |none,hq=>JR (P:=λ q=>Og W n ns env none (wp W tb n q).v) q hq YU
  have h2:=an (an h).2
  refine Au (P:=λ s=>cM W n ns env (.Subscript x (.Slice l u s p') p) (wp W tb n (.wP o lo hi))) s (an h).1 (cM.of (Lx hW (S9 hW hT G o ns nm _ h2.1 env hE hn).v (part lo l (λ x hx=>S9 hW hT G lo ns nm x hx env hE hn) (an h2.2).1) (part hi u (λ x hx=>S9 hW hT G hi ns nm x hx env hE hn) (an h2.2).2)) λ _=>rfl)
 |.absent,ns,nm,e,h,env,hE,hn=>(C5 h).elim
 |.bin op a b,ns,nm,e,h,env,hE,hn=>E.OD (P:=λ e=>cM W n ns env e (wp W tb n (.bin op a b))) e h λ l o r p h=>by
  obtain rfl:=eq_of_beq (an h).1
  exact cM.of (Me hW (S9 hW hT G a ns nm _ (an (an h).2).1 env hE hn).v (S9 hW hT G b ns nm _ (an (an h).2).2 env hE hn).v) λ _=>rfl
 |.neg a,ns,nm,e,h,env,hE,hn=>E.VJ (P:=λ e=>cM W n ns env e (wp W tb n (.neg a))) e h λ o x p h=>by
  obtain rfl:=eq_of_beq (an h).1
  exact cM.of (Lz (S9 hW hT G a ns nm _ (an h).2 env hE hn).v) λ _=>rfl
 |.cmp op a b,ns,nm,e,h,env,hE,hn=>E.vY (P:=λ e=>cM W n ns env e (wp W tb n (.cmp op a b))) e h λ l os rs p h=>lL (P:=λ os=>cM W n ns env (.Compare l os rs p) (wp W tb n (.cmp op a b))) os h λ o h=>lL (P:=λ rs=>cM W n ns env (.Compare l [o] rs p) (wp W tb n (.cmp op a b))) rs h λ r h=>by
  obtain rfl:=eq_of_beq (an h).1
  have h2:=an (an h).2
  have ha:=(S9 hW hT G a ns nm _ (an h2.2).1 env hE hn).v
  have hb:=(S9 hW hT G b ns nm _ (an h2.2).2 env hE hn).v
  exact⟨Md hW ha hb (AW h2.1),En hW ha hb (AW h2.1)⟩
 |.KE Pw Pv a b c,ns,nm,e,h,env,hE,hn=>E.vY (P:=λ e=>cM W n ns env e (wp W tb n (.KE Pw Pv a b c))) e h λ l os rs p h=>SI (P:=λ os=>cM W n ns env (.Compare l os rs p) (wp W tb n (.KE Pw Pv a b c))) os h λ o1 o2 h=>SI (P:=λ rs=>cM W n ns env (.Compare l [o1,o2] rs p) (wp W tb n (.KE Pw Pv a b c))) rs h λ r t h=>by
  obtain rfl:=eq_of_beq (an h).1
  have h2:=an (an h).2
  clear h;obtain rfl:=eq_of_beq h2.1
  have h3:=an h2.2
  have h4:=an h3.2
  have ha:=(S9 hW hT G a ns nm _ h4.1 env hE hn).v
  have hb:=(S9 hW hT G b ns nm _ (an h4.2).1 env hE hn).v
  have hc:=(S9 hW hT G c ns nm _ (an h4.2).2 env hE hn).v
  exact⟨Eh hW ha hb hc (AW h3.1),YS hW ha hb hc (AW h3.1)⟩
 |.not a,ns,nm,e,h,env,hE,hn=>E.VJ (P:=λ e=>cM W n ns env e (wp W tb n (.not a))) e h λ o x p h=>by
  obtain rfl:=eq_of_beq (an h).1
  have ha:=S9 hW hT G a ns nm _ (an h).2 env hE hn
  exact⟨Ly ha.v,El ha.t⟩
 |.and a b,ns,nm,e,h,env,hE,hn=>E.pW (P:=λ e=>cM W n ns env e (wp W tb n (.and a b))) e h λ o l p h=>by
  obtain rfl:=eq_of_beq (an h).1
  refine iR (P:=λ l=>cM W n ns env (.BoolOp .And l p) (wp W tb n (.and a b))) l (an h).2 λ x r h=>?_
  have ha:=S9 hW hT G a ns nm _ (an h).1 env hE hn
  exact iR (P:=λ r=>LC r (λ y q=>if q.isEmpty then mE gt b ns nm y else mE gt b ns nm (.BoolOp .And r p))=true->cM W n ns env (.BoolOp .And (x::r) p) (wp W tb n (.and a b))) r (an h).2 (λ y q _=>match q with
   |[]=>λ h=>have hb:=S9 hW hT G b ns nm _ h env hE hn;⟨YO ha.v hb.v,RD ha.t λ A s ρ σ Q rm S F q=>xJ hb.t rm S F q⟩
   |z::q=>λ h=>have hb:=S9 hW hT G b ns nm _ h env hE hn;⟨YO ha.v hb.v,RD ha.t hb.t⟩) (an h).2
 |.or a b,ns,nm,e,h,env,hE,hn=>E.pW (P:=λ e=>cM W n ns env e (wp W tb n (.or a b))) e h λ o l p h=>by
  obtain rfl:=eq_of_beq (an h).1
  refine iR (P:=λ l=>cM W n ns env (.BoolOp .Or l p) (wp W tb n (.or a b))) l (an h).2 λ x r h=>?_
  have ha:=S9 hW hT G a ns nm _ (an h).1 env hE hn
  exact iR (P:=λ r=>LC r (λ y q=>if q.isEmpty then mE gt b ns nm y else mE gt b ns nm (.BoolOp .Or r p))=true->cM W n ns env (.BoolOp .Or (x::r) p) (wp W tb n (.or a b))) r (an h).2 (λ y q _=>match q with
   |[]=>λ h=>have hb:=S9 hW hT G b ns nm _ h env hE hn;⟨Ig ha.v hb.v,YR ha.t λ A s ρ σ Q rm S F q=>xJ hb.t rm S F q⟩
   |z::q=>λ h=>have hb:=S9 hW hT G b ns nm _ h env hE hn;⟨Ig ha.v hb.v,YR ha.t hb.t⟩) (an h).2
 |.ite c a b,ns,nm,e,h,env,hE,hn=>E.NF (P:=λ e=>cM W n ns env e (wp W tb n (.ite c a b))) e h λ x y z p h=>
  have hc:=S9 hW hT G c ns nm _ (an h).1 env hE hn
  have ha:=S9 hW hT G a ns nm _ (an (an h).2).1 env hE hn
  have hb:=S9 hW hT G b ns nm _ (an (an h).2).2 env hE hn
  ⟨Mb hc.t ha.v hb.v,Em hc.t ha.t hb.t⟩
 |.tup es,ns,nm,e,h,env,hE,hn=>E.zH (P:=λ e=>cM W n ns env e (wp W tb n (.tup es))) e h λ l k p h=>cM.of (Lu (vR hW hT G es ns nm _ (an h).2 env hE hn) (D0 (an h).1)) λ _=>rfl
 |.list es,ns,nm,e,h,env,hE,hn=>E.Cr (P:=λ e=>cM W n ns env e (wp W tb n (.list es))) e h λ l p h=>cM.of (Eg (vR hW hT G es ns nm _ (an h).2 env hE hn) (D0 (an h).1)) λ _=>rfl
 |.dO,ns,nm,e,h,env,hE,hn=>E.Es (P:=λ e=>cM W n ns env e (wp W tb n .dO)) e h λ a b p h=>cQ (P:=λ a=>cM W n ns env (.Dict a b p) (wp W tb n .dO)) a (an h).1 (cQ (P:=λ b=>cM W n ns env (.Dict [] b p) (wp W tb n .dO)) b (an h).2 (cM.of YN λ _=>rfl))
 |.call k f args,ns,nm,e,h,env,hE,hn=>E.mJ (P:=λ e=>cM W n ns env e (wp W tb n (.call k f args))) e h λ x xs ks pos h=>cQ (P:=λ ks=>cM W n ns env (.Call x xs ks pos) (wp W tb n (.call k f args))) ks (an h).1<|E.cI (P:=λ x=>cM W n ns env (.Call x xs [] pos) (wp W tb n (.call k f args))) x (an h).2 λ x p h=>SJ (an (an h).2).2 λ y v l hk h2=>by
  obtain rfl:=eq_of_beq (an h2).1
  refine cQ (P:=λ l=>gt[k]? =some (y,v,l)->cM W n ns env (.Call (.Name y p) xs [] pos) (wp W tb n (.call k f args))) l (an (an h2).2).1 (λ hk=>?_) hk
  obtain rfl:=zQ (an (an h2).2).2
  exact cM.of (Ei hW hE ((hn y).trans (eq_of_beq (an (an h).1).1)) (GT (an (an h).1).2) (G.is k _ _ _ hk) (G.Ko (an (an h2).2).2 hk) (vR hW hT G args ns nm _ (an (an h).2).1 env hE hn)) λ _=>rfl
 |.H2 o f args,ns,nm,e,h,env,hE,hn=>E.mJ (P:=λ e=>cM W n ns env e (wp W tb n (.H2 o f args))) e h λ x xs ks pos h=>cQ (P:=λ ks=>cM W n ns env (.Call x xs ks pos) (wp W tb n (.H2 o f args))) ks (an h).1<|E.zE (P:=λ x=>cM W n ns env (.Call x xs [] pos) (wp W tb n (.H2 o f args))) x (an h).2 λ x a ap h=>
  have h2:=an (an h).2
  have h3:=an h2.2
  have h4:=an h3.2
  cM.of (Ef hW hT (eq_of_beq (an h).1) (xE h2.1) h3.1 (D0 h4.1) (S9 hW hT G o ns nm _ (an h4.2).1 env hE hn).v (vR hW hT G args ns nm _ (an h4.2).2 env hE hn)) λ _=>rfl
 |.sup _ _,ns,nm,e,h,env,hE,hn=>(C5 h).elim
 |.comp elt tg it cond,ns,nm,e,h,env,hE,hn=>E.RO (P:=λ e=>cM W n ns env e (wp W tb n (.comp elt tg it cond))) e h λ x gs sc p h=>lL (P:=λ gs=>cM W n ns env (.ListComp x gs sc p) (wp W tb n (.comp elt tg it cond))) gs h λ g h=>by
  obtain⟨t,i,ifs,as⟩:=g
  obtain rfl:as=0:=eq_of_beq (an h).1
  refine zK t (an (an h).2).2 λ tn c1 h3=>?_
  have h4:=an (an h3).2
  have h5:=an h4.2
  have h6:=an h5.2
  have h7:=an h6.2
  refine cM.of (RC hW hE (DX (an (an h).2).1 hn) c1.sz (HJ h4.1) (FF c1 (an h3).1) (S9 hW hT G it ns nm _ h6.1 env hE hn).v (λ cl C Ll=>?_) (λ cl C Ll=>(S9 hW hT G elt _ _ _ h7.1 _ Ll (pP hE hn)).v) (pS h5.1 env)) λ _=>rfl
  refine(N0.mp h7.2).elim (λ h=>cQ (P:=λ ifs=>yJ W n _ _ ifs (wp W tb n cond).t) ifs (an h).1 (EX cond (an h).2)) λ h=>lL (P:=λ ifs=>yJ W n _ _ ifs (wp W tb n cond).t) ifs h λ c h=>JX (S9 hW hT G cond _ _ _ h _ Ll (pP hE hn)).t
 |.any,ns,nm,e,h,env,hE,hn=>(C5 h).elim
theorem vR(hW:W.Ok)(hT:W.jK tb)(G:wK W gt):∀(p:uL) (ns:List (Option Str)) (nm:List (Str×NameKind)) (es:List Expr),Hm gt p ns nm es=true->∀env,U5 env->(∀x,env.kindOf x=nm.lookup x)->UU W n ns env es (DN W tb n p)
 |.nil,ns,nm,es,h,env,hE,hn=>cQ (P:=λ es=>UU W n ns env es (DN W tb n .nil)) es h RE
 |.cons p r,ns,nm,es,h,env,hE,hn=>iR (P:=λ es=>UU W n ns env es (DN W tb n (.cons p r))) es h λ e q h=>JY (an h).1 (S9 hW hT G p ns nm e (an (an h).2).1 env hE hn).v (vR hW hT G r ns nm q (an (an h).2).2 env hE hn)
end
end
section
def tX(nm:List (Str×NameKind))(x:Str):Bool:=nm.lookup x==some .local||(x !=("__class__":Str)&&nm.lookup x==some .cell)
theorem oY{nm:List (Str×NameKind)}{x:Str}{env:Env}(h:tX nm x=true)(hn:∀x,env.kindOf x=nm.lookup x):env.kindOf x=some .local∨(x≠("__class__":Str)∧env.kindOf x=some .cell):=by
 rw[hn]
 exact(N0.mp h).imp eq_of_beq λ h=>⟨bG.mp (an h).1,eq_of_beq (an h).2⟩
def BA(ns:List (Option Str)):List Nat->List Str->Bool
 |[],xs=>LN xs
 |i::is,xs=>LC xs λ x q=>tU ns i x&&BA ns is q
theorem pT{ns:List (Option Str)}:∀{is:List Nat} {xs:List Str},BA ns is xs=true->is.length=xs.length∧∀(j i:Nat) (x:Str),is[j]? =some i->xs[j]? =some x->ns[i]? =some (some x)
 |[],xs,h=>cQ (P:=λ xs=>0=xs.length∧∀(j i:Nat) (x:Str),[][j]? =some i->xs[j]? =some x->ns[i]? =some (some x)) xs h ⟨rfl,λ j i x h _=>nomatch h⟩
 |i::is,xs,h=>iR (P:=λ xs=>is.length+1=xs.length∧∀(j i':Nat) (x:Str),(i::is)[j]? =some i'->xs[j]? =some x->ns[i']? =some (some x)) xs h λ x q h=>
  ⟨C7 (·+1) (pT (an h).2).1,λ j i' x' e1 e2=>match j with
   |0=>H1 e1▸H1 e2▸fS (an h).1
   |j+1=>(pT (an h).2).2 j i' x' e1 e2⟩
def w5(e:PE):Bool:=e.ctorIdx==25
def WU(e:Expr):Bool:=!(e.ctorIdx==25)
def Ji(ns:List (Option Str))(nm:List (Str×NameKind))(is:List Nat)(es:List Expr)(e:Expr):Bool:=L2 es λ a b=>E.name a λ x p1=>E.name b λ y p2=>E.tup e λ vs _ _=>L2 is λ i j=>
 nm.lookup x==some .local&&(nm.lookup y==some .local&&(p2.line==p1.line&&(tU ns i x&&(tU ns j y&&(i !=j&&(x !=y&&(vs.length==2&&(vs.all rG&&(!(vs.all (foldedForSure 8))&&!(vs.all (constantsAlone 8)))))))))))
set_option smartUnfolding false in
mutual
noncomputable def mS(gt:List GE)(ns:List (Option Str))(nm:List (Str×NameKind)):PS->Stmt->Bool
 |.expr p,st=>S.expr st λ e _=>yR e&&mE gt p ns nm e
 |.asg i p,st=>S.asg st λ ts e _=>L1 ts λ t=>E.name t λ x _=>tU ns i x&&(tX nm x&&((w5 p||yR e)&&mE gt p ns nm e))
 |.pJ is p,st=>S.asg st λ ts e _=>L1 ts λ t=>E.tup t λ es _ _=>yR e&&(mE gt p ns nm e&&((WU e&&(decide (0<es.length)&&namesOf es λ tn=>BA ns is tn&&tn.all (tX nm)))||Ji ns nm is es e))
 |.Q1 o f p,st=>S.asg st λ ts e _=>L1 ts λ t=>E.attr t λ x a _=>a==Str.ofString f&&(mE gt o ns nm x&&mE gt p ns nm e)
 |.aM o i p,st=>S.asg st λ ts e _=>L1 ts λ t=>E.sub t λ x y _=>mE gt o ns nm x&&(mE gt i ns nm y&&mE gt p ns nm e)
 |.ite c a b,st=>S.ite st λ t x y _=>mE gt c ns nm t&&(XG gt ns nm a x&&XG gt ns nm b y)
 |.IA c a,st=>S.IA st λ t x o _=>LN o&&(mE gt c ns nm t&&XG gt ns nm a x)
 |.R6 i p a,st=>S.YB st λ t e b o _=>LN o&&E.name t λ x _=>tU ns i x&&(tX nm x&&(GS e&&(mE gt p ns nm e&&XG gt ns nm a b)))
 |.rS is p a,st=>S.YB st λ t e b o _=>LN o&&E.tup t λ es _ _=>GS e&&(mE gt p ns nm e&&(XG gt ns nm a b&&(decide (0<es.length)&&namesOf es λ tn=>BA ns is tn&&tn.all (tX nm))))
 |.forR i p a,st=>S.YB st λ t e b o _=>LN o&&E.name t λ x _=>E.call e λ g es ks _=>LN ks&&L1 es λ e=>E.name g λ y _=>tU ns i x&&(tX nm x&&(y==("reversed":Str)&&(nm.lookup ("reversed":Str)==some .globalImplicit&&(rG e&&
   (mE gt p ns nm e&&(XG gt ns nm a b&&GA gt 0 λ z v _=>z==("reversed":Str)&&DZ (.type "reversed") v))))))
 |.ret p,st=>S.ret st λ o _=>OS o λ e=>mE gt p ns nm e
 |.WH,st=>S.ret st λ o _=>ON o
 |.cont,st=>S.cont st λ _=>true
 |.pass,st=>S.pass st λ _=>true
 |.any,_=>true
noncomputable def XG(gt:List GE)(ns:List (Option Str))(nm:List (Str×NameKind)):V0->List Stmt->Bool
 |.nil,st=>LN st
 |.cons p r,st=>LC st λ s q=>mS gt ns nm p s&&XG gt ns nm r q
end
theorem LT{e o:Expr}{a:Str}{p:Pos}{l:Nat}{env:Env}:swapsWith e (some (.Attribute o a p)) l env=pure false:=by cases e<;>rfl
theorem SL{e o i:Expr}{p:Pos}{l:Nat}{env:Env}:swapsWith e (some (.Subscript o i p)) l env=pure false:=by cases e<;>rfl
theorem DT{e:Expr}{es:List Expr}{c:Nat}{tp:Pos}{l:Nat}{env:Env}:swapsWithSole [.Tuple es c tp] e l env=pure false:=by cases e<;>rfl
theorem DU{e:Expr}{t:Option Expr}{l:Nat}{env:Env}(h:yR e=true):swapsWith e t l env=pure false:=by cases e<;>first|rfl|cases h
theorem FW{e:Expr}{es:List Expr}{c:Nat}{tp:Pos}{env:Env}(h:WU e=true):swappedStores [.Tuple es c tp] e env=pure none:=by cases e<;>first|rfl|cases h
section
variable{W:Wd}{n:Nat}{tb:fL}{gt:List GE}{ns:List (Option Str)}{nm:List (Str×NameKind)}{env:Env}
theorem Ai(hW:W.Ok)(hT:W.jK tb)(G:wK W gt)(hE:U5 env)(hn:∀x,env.kindOf x=nm.lookup x){elt:PE}{tg:Nat}{it cond:PE}{i:Nat}{x:Str}{p' p:Pos}(e:Expr)(h:mE gt (.comp elt tg it cond) ns nm e=true)(hi:tU ns i x=true)(hk:tX nm x=true):
  Ex W n ns env (.Assign [.Name x p'] e p) (ws W tb n (.asg i (.comp elt tg it cond))):=
 E.RO (P:=λ e=>Ex W n ns env (.Assign [.Name x p'] e p) (ws W tb n (.asg i (.comp elt tg it cond)))) e h λ y gs sc pos h=>lL (P:=λ gs=>Ex W n ns env (.Assign [.Name x p'] (.ListComp y gs sc pos) p) (ws W tb n (.asg i (.comp elt tg it cond)))) gs h λ g h=>by
  obtain⟨t,i,ifs,as⟩:=g
  obtain rfl:as=0:=eq_of_beq (an h).1
  refine zK t (an (an h).2).2 λ tn c1 h3=>?_
  have h4:=an (an h3).2
  have h5:=an h4.2
  have h6:=an h5.2
  have h7:=an h6.2
  refine Eb hW hE (DX (an (an h).2).1 hn) c1.sz (HJ h4.1) (FF c1 (an h3).1) (S9 hW hT G it ns nm _ h6.1 env hE hn).v (λ cl C Ll=>?_) (λ cl C Ll=>(S9 hW hT G elt _ _ _ h7.1 _ Ll (pP hE hn)).v) (pS h5.1 env) (fS hi) (oY hk hn)
  refine(N0.mp h7.2).elim (λ h=>cQ (P:=λ ifs=>yJ W n _ _ ifs (wp W tb n cond).t) ifs (an h).1 (EX cond (an h).2)) λ h=>lL (P:=λ ifs=>yJ W n _ _ ifs (wp W tb n cond).t) ifs h λ c h=>JX (S9 hW hT G cond _ _ _ h _ Ll (pP hE hn)).t
theorem VM{es:List Expr}{tn:List Str}{is:List Nat}(hn:∀x,env.kindOf x=nm.lookup x)(h1:Bn es tn)(h:(BA ns is tn&&tn.all (tX nm))=true):Ap ns env false es is:=
 h1.Yy (pT (an h).1).1 (pT (an h).1).2 λ x hx=>(oY (G3.mp (an h).2 x hx) hn).imp id λ k=>⟨rfl,k⟩
theorem ce{f:Expr->Option Str}{a b:Expr}{x y:Str}(h1:f a=some x)(h2:f b=some y):List.filterMap f [a,b]=[x,y]:=(List.filterMap_cons_some h1).trans (C7 (x::·) (List.filterMap_cons_some h2))
theorem IL{vs:List Expr}{x y:Str}{p1 p2 tp vp:Pos}{c c':Nat}(hE:U5 env)(hx:env.kindOf x=some .local)(hy:env.kindOf y=some .local)(hl:p2.line=p1.line)(Zt:x≠y)(hv:vs.length=2)
  (h1:vs.all rG=true)(h2:vs.all (foldedForSure 8)=false)(h3:vs.all (constantsAlone 8)=false):
  swappedStores [.Tuple [.Name x p1,.Name y p2] c tp] (.Tuple vs c' vp) env=pure (some [x,y]):=by
 have hb:env.blockKind=.function:=by unfold Env.blockKind;rw[hE.kind];rfl
 have Qr:[x,y].eraseDups=[x,y]:=by rw[List.eraseDups_cons,J3 (by rw[O0.mpr (gZ Zt)];rfl)];rfl
 refine(G0 (by rw[hv,hb];exact C5)).trans ((G0 λ h=>A0 (jO.mp h) λ e q=>?_).trans ?_)
 ·have p:=G3.mp h1 e q.1
  have m:=q.2
  clear Qr c c' h1 h2 h3 hE hb q h hl hv hx Zt hy p1 p2 tp vp vs;cases e<;>first|exact(C5 p).elim|cases m
 dsimp only
 rw[ce (F7 (by rw[hx,O2];exact O2 _)) (F7 (by rw[hy,O2];exact jL.mpr hl))]
 exact(G0 (by rw[Qr];exact C5)).trans ((G0 λ h=>C5 (h2.symm.trans h)).trans (G0 λ h=>C5 (h3.symm.trans h)))
mutual
theorem QF(hW:W.Ok)(hT:W.jK tb)(G:wK W gt)(hE:U5 env)(hn:∀x,env.kindOf x=nm.lookup x):∀(p:PS) (st:Stmt),mS gt ns nm p st=true->Ex W n ns env st (ws W tb n p)
 |.expr p,st,h=>S.RA (P:=λ st=>Ex W n ns env st (ws W tb n (.expr p))) st h λ e _ h=>Dw hE (DU (an h).1) (S9 hW hT G p ns nm _ (an h).2 env hE hn).v
 |.asg i p,st,h=>S.HT (P:=λ st=>Ex W n ns env st (ws W tb n (.asg i p))) st h λ ts e q h=>lL (P:=λ ts=>Ex W n ns env (.Assign ts e q) (ws W tb n (.asg i p))) ts h λ t h=>E.cI (P:=λ t=>Ex W n ns env (.Assign [t] e q) (ws W tb n (.asg i p))) t h λ x xp h0=>
  have h2:=an (an h0).2
  have h3:=an h2.2
  (N0.mp h3.1).elim (λ hc=>PE.comp.elim (motive_1:=λ p=>mE gt p ns nm e=true->Ex W n ns env (.Assign [.Name x xp] e q) (ws W tb n (.asg i p))) p (eq_of_beq hc) (λ elt tg it cond h=>Ai hW hT G hE hn e h (an h0).1 h2.1) h3.2)
   λ hc=>YM hE (fS (an h0).1) (oY h2.1 hn) (DU hc) (S9 hW hT G p ns nm _ h3.2 env hE hn).v
 |.pJ is p,st,h=>S.HT (P:=λ st=>Ex W n ns env st (ws W tb n (.pJ is p))) st h λ ts e q h=>lL (P:=λ ts=>Ex W n ns env (.Assign ts e q) (ws W tb n (.pJ is p))) ts h λ t h=>E.zH (P:=λ t=>Ex W n ns env (.Assign [t] e q) (ws W tb n (.pJ is p))) t h λ es c tp h=>
  have h2:=an (an h).2
  have he:=(S9 (n:=n) hW hT G p ns nm _ h2.1 env hE hn).v
  (N0.mp h2.2).elim (λ g=>
   have g2:=an (an g).2
   lY g2.2 λ tn m hh=>match es,D0 g2.1,m with
    |e1::es,_,m=>Dy hE (VM hn m hh) rfl DT (FW (an g).1) he)
   λ g=>SI (P:=λ es=>Ex W n ns env (.Assign [.Tuple es c tp] e q) (ws W tb n (.pJ is p))) es g λ a b g=>E.cI (P:=λ a=>Ex W n ns env (.Assign [.Tuple [a,b] c tp] e q) (ws W tb n (.pJ is p))) a g λ x p1 g=>
    E.cI (P:=λ b=>Ex W n ns env (.Assign [.Tuple [.Name x p1,b] c tp] e q) (ws W tb n (.pJ is p))) b g λ y p2 g=>E.zH (P:=λ e=>Ev W n ns env e (wp W tb n p).v->Ex W n ns env (.Assign [.Tuple [.Name x p1,.Name y p2] c tp] e q) (ws W tb n (.pJ is p))) e g (λ vs c' vp g he=>
     SI (P:=λ is=>Ex W n ns env (.Assign [.Tuple [.Name x p1,.Name y p2] c tp] (.Tuple vs c' vp) q) (ws W tb n (.pJ is p))) is g λ i j g=>
      have g2:=an (an g).2
      have g3:=an g2.2
      have g4:=an g3.2
      have g5:=an g4.2
      have g6:=an g5.2
      have g7:=an g6.2
      have g8:=an g7.2
      have g9:=an g8.2
      have hx:=(hn x).trans (eq_of_beq (an g).1)
      have hy:=(hn y).trans (eq_of_beq g2.1)
      YL hE (fS g4.1) (fS g5.1) hx hy (bG.mp g6.1) DT (IL hE hx hy (eq_of_beq g3.1) (bG.mp g7.1) (eq_of_beq g8.1) g9.1 (AW (an g9.2).1) (AW (an g9.2).2)) he) he
 |.Q1 o f p,st,h=>S.HT (P:=λ st=>Ex W n ns env st (ws W tb n (.Q1 o f p))) st h λ ts e q h=>lL (P:=λ ts=>Ex W n ns env (.Assign ts e q) (ws W tb n (.Q1 o f p))) ts h λ t h=>E.zE (P:=λ t=>Ex W n ns env (.Assign [t] e q) (ws W tb n (.Q1 o f p))) t h λ x a _ h=>
  Ed hW hT (eq_of_beq (an h).1) LT (S9 hW hT G p ns nm _ (an (an h).2).2 env hE hn).v (S9 hW hT G o ns nm _ (an (an h).2).1 env hE hn).v
 |.aM o i p,st,h=>S.HT (P:=λ st=>Ex W n ns env st (ws W tb n (.aM o i p))) st h λ ts e q h=>lL (P:=λ ts=>Ex W n ns env (.Assign ts e q) (ws W tb n (.aM o i p))) ts h λ t h=>E.LV (P:=λ t=>Ex W n ns env (.Assign [t] e q) (ws W tb n (.aM o i p))) t h λ x y _ h=>
  Dz hW SL (S9 hW hT G p ns nm _ (an (an h).2).2 env hE hn).v (S9 hW hT G o ns nm _ (an h).1 env hE hn).v (S9 hW hT G i ns nm _ (an (an h).2).1 env hE hn).v
 |.ite c a b,st,h=>S.NF (P:=λ st=>Ex W n ns env st (ws W tb n (.ite c a b))) st h λ t x y _ h=>Rr (S9 hW hT G c ns nm _ (an h).1 env hE hn).t (mA hW hT G hE hn a _ (an (an h).2).1) (mA hW hT G hE hn b _ (an (an h).2).2)
 |.IA c a,st,h=>S.Iz (P:=λ st=>Ex W n ns env st (ws W tb n (.IA c a))) st h λ t x o q h=>cQ (P:=λ o=>Ex W n ns env (.While t x o q) (ws W tb n (.IA c a))) o (an h).1 (YJ (S9 hW hT G c ns nm _ (an (an h).2).1 env hE hn).t (mA hW hT G hE hn a _ (an (an h).2).2))
 |.R6 i p a,st,h=>S.HG (P:=λ st=>Ex W n ns env st (ws W tb n (.R6 i p a))) st h λ t e b o q h=>cQ (P:=λ o=>Ex W n ns env (.For t e b o q) (ws W tb n (.R6 i p a))) o (an h).1<|E.cI (P:=λ t=>Ex W n ns env (.For t e b [] q) (ws W tb n (.R6 i p a))) t (an h).2 λ x _ h=>
  have h2:=an (an h).2
  have h3:=an h2.2
  YK hW hE (.one (fS (an h).1) ((oY h2.1 hn).imp id λ k=>⟨rfl,k⟩)) (S9 hW hT G p ns nm _ (an h3.2).1 env hE hn).v (mA hW hT G hE hn a _ (an h3.2).2) (λ x ρ σ R q=>⟨[x],rfl,q⟩) (pS h3.1 env)
 |.rS is p a,st,h=>S.HG (P:=λ st=>Ex W n ns env st (ws W tb n (.rS is p a))) st h λ t e b o q h=>cQ (P:=λ o=>Ex W n ns env (.For t e b o q) (ws W tb n (.rS is p a))) o (an h).1<|E.zH (P:=λ t=>Ex W n ns env (.For t e b [] q) (ws W tb n (.rS is p a))) t (an h).2 λ es c tp h=>
  have h2:=an (an h).2
  have h3:=an h2.2
  have h4:=an h3.2
  lY h4.2 λ tn m hh=>match es,D0 h4.1,m with
   |e1::es,_,m=>
    have tg:=VM (env:=env) hn m hh
    YK hW hE (.tup tg rfl) (S9 hW hT G p ns nm _ h2.1 env hE hn).v (mA hW hT G hE hn a _ h3.1) (λ x ρ σ R ⟨ys,e,l,q⟩=>⟨ys,by subst e;exact F7 (l.trans tg.len),q⟩) (pS (an h).1 env)
 |.forR i p a,st,h=>S.HG (P:=λ st=>Ex W n ns env st (ws W tb n (.forR i p a))) st h λ t e b o q h=>cQ (P:=λ o=>Ex W n ns env (.For t e b o q) (ws W tb n (.forR i p a))) o (an h).1<|E.cI (P:=λ t=>Ex W n ns env (.For t e b [] q) (ws W tb n (.forR i p a))) t (an h).2 λ x xp h=>
  E.mJ (P:=λ e=>Ex W n ns env (.For (.Name x xp) e b [] q) (ws W tb n (.forR i p a))) e h λ g es ks cp h=>cQ (P:=λ ks=>Ex W n ns env (.For (.Name x xp) (.Call g es ks cp) b [] q) (ws W tb n (.forR i p a))) ks (an h).1<|
  lL (P:=λ es=>Ex W n ns env (.For (.Name x xp) (.Call g es [] cp) b [] q) (ws W tb n (.forR i p a))) es (an h).2 λ e h=>E.cI (P:=λ g=>Ex W n ns env (.For (.Name x xp) (.Call g [e] [] cp) b [] q) (ws W tb n (.forR i p a))) g h λ y gp h0=>by
   have h2:=an (an h0).2
   have h3:=an h2.2
   have h4:=an h3.2
   have h5:=an h4.2
   have h6:=an h5.2
   have h7:=an h6.2
   obtain rfl:=eq_of_beq h3.1
   refine SJ h7.2 λ z v l hk h=>?_
   obtain rfl:=eq_of_beq (an h).1
   obtain rfl:=zQ (an h).2
   exact Dv hW hE ((hn _).trans (eq_of_beq h4.1)) (G.is 0 _ _ _ hk) h5.1 (.one (fS (an h0).1) ((oY h2.1 hn).imp id λ k=>⟨rfl,k⟩)) (S9 hW hT G p ns nm _ h6.1 env hE hn).v (mA hW hT G hE hn a _ h7.1) (λ x ρ σ R q=>⟨[x],rfl,q⟩)
 |.ret p,st,h=>S.WG (P:=λ st=>Ex W n ns env st (ws W tb n (.ret p))) st h λ o q h=>iQ (P:=λ o=>Ex W n ns env (.Return o q) (ws W tb n (.ret p))) o h λ e h=>Lr (S9 hW hT G p ns nm _ h env hE hn).v
 |.WH,st,h=>S.WG (P:=λ st=>Ex W n ns env st (ws W tb n .WH)) st h λ o q h=>Au (P:=λ o=>Ex W n ns env (.Return o q) (ws W tb n .WH)) o h Ds
 |.cont,st,h=>S.Ez (P:=λ st=>Ex W n ns env st (ws W tb n .cont)) st h λ _ _=>Dx
 |.pass,st,h=>S.Cg (P:=λ st=>Ex W n ns env st (ws W tb n .pass)) st h λ _ _=>Du
 |.any,st,h=>λ A s ρ σ Q _ _ _ q=>q.elim
theorem mA(hW:W.Ok)(hT:W.jK tb)(G:wK W gt)(hE:U5 env)(hn:∀x,env.kindOf x=nm.lookup x):∀(p:V0) (st:List Stmt),XG gt ns nm p st=true->UT W n ns env st (S8 W tb n p)
 |.nil,st,h=>cQ (P:=λ st=>UT W n ns env st (S8 W tb n .nil)) st h Dr
 |.cons p r,st,h=>iR (P:=λ st=>UT W n ns env st (S8 W tb n (.cons p r))) st h λ s q h=>YI (QF hW hT G hE hn p s (an h).1) (mA hW hT G hE hn r q (an h).2)
end
end
end
def ZG(x:PV)(v:Value):Bool:=match x with
 |.none=>V.none v
 |.bool a=>V.bool v λ b=>a==b
 |.int a=>V.int v λ b _=>a==b
 |.str a=>V.str v λ b _=>a==b&&decide (b.length<=1000)
 |_=>false
theorem TX{v:Value}:∀x:PV,ZG x v=true->gH x v
 |.none=>λ h=>V.yS (P:=gH .none) v h .none
 |.bool a=>λ h=>V.pW (P:=gH (.bool a)) v h λ b h=>eq_of_beq h▸.bool _
 |.int a=>λ h=>V.oZ (P:=gH (.int a)) v h λ b _ h=>eq_of_beq h▸.int _ _
 |.str a=>λ h=>V.zN (P:=gH (.str a)) v h λ b _ h=>eq_of_beq (an h).1▸.str _ _ (LS (eq_of_beq (an h).1▸(an h).2))
 |.tup _|.ref _|.rY _ _|.M7=>λ h=>(C5 h).elim
def NP:List PV->List Value->Bool
 |[],vs=>LN vs
 |a::r,vs=>LC vs λ v q=>ZG a v&&NP r q
theorem FE:∀{ds:List PV} {vs:List Value},NP ds vs=true->bU ds vs
 |[],vs,h=>cQ (P:=bU []) vs h .nil
 |a::r,vs,h=>iR (P:=bU (a::r)) vs h λ v q h=>.cons (TX a (an h).1) (FE (an h).2)
def D.seq(e:Data)(g:(Array Value)->Nat->Bool):Bool:=if h:e.ctorIdx=2 then Data.seq.elim (motive:=λ _=>Bool) e h λ v n=>g v n else false
theorem D.VX{P:Data->Prop}{g:(Array Value)->Nat->Bool}(e:Data)(h:D.seq e g=true)(q:∀v n,g v n=true->P (Data.seq v n)):P e:=Data.seq.elim (motive:=λ e=>D.seq e g=true->P e) e (dt h) (λ v n h=>q v n h) h
def D.cell(e:Data)(g:(Option Value)->Bool):Bool:=if h:e.ctorIdx=6 then Data.cell.elim (motive:=λ _=>Bool) e h λ v=>g v else false
theorem D.Ff{P:Data->Prop}{g:(Option Value)->Bool}(e:Data)(h:D.cell e g=true)(q:∀v,g v=true->P (Data.cell v)):P e:=Data.cell.elim (motive:=λ e=>D.cell e g=true->P e) e (dt h) (λ v h=>q v h) h
def D.func(e:Data)(g:FuncData->Bool):Bool:=if h:e.ctorIdx=7 then Data.func.elim (motive:=λ _=>Bool) e h λ d=>g d else false
theorem D.Dk{P:Data->Prop}{g:FuncData->Bool}(e:Data)(h:D.func e g=true)(q:∀d,g d=true->P (Data.func d)):P e:=Data.func.elim (motive:=λ e=>D.func e g=true->P e) e (dt h) (λ d h=>q d h) h
def D.fields(e:Data)(g:(Array Value)->Bool):Bool:=if h:e.ctorIdx=9 then Data.fields.elim (motive:=λ _=>Bool) e h λ v=>g v else false
theorem D.TO{P:Data->Prop}{g:(Array Value)->Bool}(e:Data)(h:D.fields e g=true)(q:∀v,g v=true->P (Data.fields v)):P e:=Data.fields.elim (motive:=λ e=>D.fields e g=true->P e) e (dt h) (λ v h=>q v h) h
def FB.stmts(e:FuncBody)(g:(List Stmt)->Bool):Bool:=if h:e.ctorIdx=0 then FuncBody.stmts.elim (motive:=λ _=>Bool) e h λ b=>g b else false
theorem FB.VS{P:FuncBody->Prop}{g:(List Stmt)->Bool}(e:FuncBody)(h:FB.stmts e g=true)(q:∀b,g b=true->P (FuncBody.stmts b)):P e:=FuncBody.stmts.elim (motive:=λ e=>FB.stmts e g=true->P e) e (dt h) (λ b h=>q b h) h
def Ry(K:Frag)(ds:List PV)(v:Value):Bool:=(V.none v&&LN ds)||V.ref v λ t=>OS (K.lookup t) λ o=>D.seq o.data λ vs _=>NP ds vs.toList
theorem SH{α:Type}{l:List α}(h:LN l=true):l=[]:=cQ (P:=λ l=>l=[]) l h rfl
theorem SG{α:Type}{l:Option α}(h:ON l=true):l=none:=Au (P:=λ l=>l=none) l h rfl
theorem Et{K:Frag}{ds:List PV}{v:Value}(h:Ry K ds v=true):(ds=[]∧v=.none)∨∃t c d vs n sl,v=.ref t∧K.lookup t=some ⟨c,d,.seq (List.toArray vs) n,sl⟩∧bU ds vs:=
 (N0.mp h).imp (λ h=>⟨SH (an h).2,V.yS (P:=λ v=>v=.none) v (an h).1 rfl⟩) λ h=>V.vA (P:=λ v=>∃t c d vs n sl,v=.ref t∧K.lookup t=some ⟨c,d,.seq (List.toArray vs) n,sl⟩∧bU ds vs) v h λ t h=>
  iQ (P:=λ o=>K.lookup t=o->∃u c d vs n sl,Value.ref t=.ref u∧K.lookup u=some ⟨c,d,.seq (List.toArray vs) n,sl⟩∧bU ds vs) _ h (λ o=>match o with
   |⟨c,d,da,sl⟩=>λ h=>D.VX (P:=λ da=>K.lookup t=some ⟨c,d,da,sl⟩->∃u c d vs n sl,Value.ref t=.ref u∧K.lookup u=some ⟨c,d,.seq (List.toArray vs) n,sl⟩∧bU ds vs) da h λ vs n h e=>⟨t,c,d,vs.toList,n,sl,rfl,by rw[Array.toArray_toList];exact e,FE h⟩) rfl
def MV:List Str->Bool
 |[]=>true
 |x::r=>!r.contains x&&MV r
theorem EM:∀{l:List Str},MV l=true->l.Nodup
 |[],_=>.nil
 |x::r,h=>N7.mpr ⟨λ m=>C5 ((AW (an h).1).symm.trans (jD.mpr m)),EM (an h).2⟩
def Xs(K:Frag)(fd:FuncData)(ps:List Str)(ds:List PV)(ls:List Str):Bool:=
 Nat.beq fd.globals mainGlobals&&(Nat.beq fd.builtins builtinsNs&&(codeIn K fd.code fd.qualname&&(LN fd.params.posonlyargs&&(fd.params.args.map (·.arg)==ps&&(LN fd.params.kwonlyargs&&(ON fd.params.vararg&&(ON fd.params.kwarg&&(fd.scope.kind==.function&&(!fd.scope.isGenerator&&(!fd.scope.isCoroutine&&
  (Ry K ds fd.defaults&&(MV (ps++ls)&&(ps.all (tX fd.scope.names)&&(fd.scope.names.all (λ x=>x.2 !=.free||x.1==("__class__":Str))&&ps.all (·!=("__class__":Str))))))))))))))))
theorem YC{K:Frag}{fd:FuncData}{ps ls:List Str}{ds:List PV}{a:Addr}{body:List Stmt}(h:Xs K fd ps ds ls=true)(ho:∃oc od Kc,K.lookup a=some ⟨oc,od,.func fd,Kc⟩)(hb:fd.body=.stmts body):Gn K a ps ds ls body fd.scope fd:=
 have h2:=an (an h).2
 have h3:=an h2.2
 have h4:=an h3.2
 have h5:=an h4.2
 have h6:=an h5.2
 have h7:=an h6.2
 have h8:=an h7.2
 have h9:=an h8.2
 have Lm:=an h9.2
 have Rn:=an Lm.2
 have Rk:=an Rn.2
 have Rj:=an Rk.2
 have Ri:=an Rj.2
 have Rh:=an Ri.2
 ⟨ho,hb,rfl,X8 (an h).1,X8 h2.1,h3.1,SH h4.1,eq_of_beq h5.1,SH h6.1,SG h7.1,SG h8.1,eq_of_beq h9.1,AW Lm.1,AW Rn.1,Et Rk.1,EM Rj.1,
  λ x hx=>(N0.mp (G3.mp Ri.1 x hx)).imp eq_of_beq λ h=>eq_of_beq (an h).2,λ x hx q=>(N0.mp (G3.mp Rh.1 x hx)).elim (λ h=>absurd q (bG.mp h)) eq_of_beq,λ x hx=>bG.mp (G3.mp Rh.2 x hx)⟩
def fnAt(K:Frag)(a:Addr)(f:FuncData->List Stmt->Bool):Bool:=OS (K.lookup a) λ o=>D.func o.data λ fd=>FB.stmts fd.body (f fd)
theorem QY{P:Prop}{K:Frag}{a:Addr}{f:FuncData->List Stmt->Bool}(h:fnAt K a f=true)(q:∀fd body,(∃oc od Kc,K.lookup a=some ⟨oc,od,.func fd,Kc⟩)->fd.body=.stmts body->f fd body=true->P):P:=
 iQ (P:=λ o=>K.lookup a=o->P) _ h (λ o=>match o with
  |⟨c,d,da,sl⟩=>λ h=>D.Dk (P:=λ da=>K.lookup a=some ⟨c,d,da,sl⟩->P) da h λ fd h e=>FB.VS (P:=λ b=>fd.body=b->P) _ h (λ b h e2=>q fd b ⟨c,d,sl,e⟩ e2 h) rfl) rfl
def i7(K:Frag)(gt:List GE)(cl:Bool)(a:Addr)(ps:List Str)(ds:List PV)(ls:List Str)(b:V0):Bool:=fnAt K a λ fd body=>XG gt ((ps++ls).map some) fd.scope.names b body&&(Xs K fd ps ds ls&&fd.closure.isEmpty==cl)
theorem mJ{W:Wd}{n:Nat}{σ:PH}{tb:fL}{gt:List GE}{a:Addr}{ps ls:List Str}{ds:List PV}{b:V0}{args:List PV}{Q:PV->PH->Prop}(hW:W.Ok)(hT:W.jK tb)(G:wK W gt)(h:i7 W.K gt true a ps ds ls b=true)
  (h1:args.length<=ps.length)(h2:ds.length<=ps.length)(h3:ps.length<=args.length+ds.length)
  (hq:Ny W tb n b (args++ds.drop (ds.length+args.length - ps.length)++List.replicate ls.length .M7) σ Q):KU W (n+1) (.ref a) args σ Q:=
 QY h λ fd body ho hb h=>Rp hW (YC (an (an h).2).1 ho hb) ⟨List.isEmpty_iff.mp (eq_of_beq (an (an h).2).2)⟩ (λ env hE hs=>mA hW hT G hE (λ x=>by unfold Env.kindOf;rw[hs]) b body (an h).1) h1 h2 h3 hq
structure P0 where
 a:Addr
 ps:List String
 ds:List PV
 ls:List String
 b:V0
def P0.ok(K:Frag)(gt:List GE)(r:P0):Bool:=i7 K gt true r.a (r.ps.map Str.ofString) r.ds (r.ls.map Str.ofString) r.b
def P0.frame(r:P0)(args:List PV):Option (List PV):=if And (args.length<=r.ps.length) (And (r.ds.length<=r.ps.length) (r.ps.length<=args.length+r.ds.length))then some (args++r.ds.drop (r.ds.length+args.length - r.ps.length)++List.replicate r.ls.length .M7)else none
theorem P0.call{W:Wd}{n:Nat}{σ:PH}{tb:fL}{gt:List GE}{r:P0}{args ρ:List PV}{Q:PV->PH->Prop}(hW:W.Ok)(hT:W.jK tb)(G:wK W gt)(h:r.ok W.K gt=true)(hf:r.frame args=some ρ)(hq:Ny W tb n r.b ρ σ Q):KU W (n+1) (.ref r.a) args σ Q:=by
 unfold P0.frame at hf
 have lp:∀l:List String,(l.map Str.ofString).length=l.length:=λ _=>A8 ..
 by_cases c:And (args.length<=r.ps.length) (And (r.ds.length<=r.ps.length) (r.ps.length<=args.length+r.ds.length))
 ·rw[F7 c]at hf
  rw[<-H1 hf]at hq
  refine mJ hW hT G h ?_ ?_ ?_ ?_<;>rw[lp]
  ·exact c.1
  ·exact c.2.1
  ·exact c.2.2
  ·rw[lp];exact hq
 ·rw[G0 c]at hf;cases hf
def IP(f v:Value):Bool:=DZ f v||V.int f λ i t=>V.int v λ j u=>i==j&&Nat.beq t u
theorem sY{f g:Value}(h:IP f g=true):f=g:=(N0.mp h).elim zQ λ h=>
 V.oZ (P:=λ f=>f=g) f h λ i t h=>V.oZ (P:=λ g=>Value.int i t=g) g h λ j u h=>eq_of_beq (an h).1▸X8 (an h).2▸rfl
def PU(K:Frag)(v:Value)(l:List String):Bool:=(V.ref v (λ a=>keepIn K (.ref a)||!LN l)||LN l&&!V.ref v λ _=>true)&&(LN l||V.ref v λ t=>OS (K.lookup t) λ o=>V.typ o.cls λ c=>c=="tuple"&&D.seq o.data λ vs _=>gT (l.map Str.ofString) vs.toList)
def bw(K:Frag)(bl:List (Str×Value))(e:GE):Bool:=PU K e.2.1 e.2.2&&OS (nsIn K mainGlobals e.1) λ o=>OS o (IP e.2.1)||ON o&&bl.any λ p=>p.1==e.1&&IP p.2 e.2.1
def gtB(K:Frag)(bl:List (Str×Value))(gt:List GE):Bool:=gt.all (bw K bl)
theorem ME{K:Frag}{a:Addr}(h:PU K (.ref a) []=true):keepIn K (.ref a)=true:=(N0.mp (an h).1).elim (λ h=>(N0.mp h).elim id λ h=>(C5 h).elim) λ h=>(C5 h).elim
theorem SS{K:Frag}{v:Value}{l:List String}(h:PU K v l=true)(hl:l≠[]):∃t vs d m sl,v=.ref t∧K.lookup t=some ⟨.type "tuple",d,.seq (List.toArray vs) m,sl⟩∧gT (l.map Str.ofString) vs=true:=
 (N0.mp (an h).2).elim (λ h=>absurd (SH h) hl) λ h=>V.vA (P:=λ v=>∃t vs d m sl,v=.ref t∧K.lookup t=some ⟨.type "tuple",d,.seq (List.toArray vs) m,sl⟩∧gT (l.map Str.ofString) vs=true) v h λ t h=>
  iQ (P:=λ o=>K.lookup t=o->∃u vs d m sl,Value.ref t=.ref u∧K.lookup u=some ⟨.type "tuple",d,.seq (List.toArray vs) m,sl⟩∧gT (l.map Str.ofString) vs=true) _ h (λ o=>match o with
   |⟨c,d,da,sl⟩=>λ h=>V.FU (P:=λ c=>K.lookup t=some ⟨c,d,da,sl⟩->∃u vs d m sl,Value.ref t=.ref u∧K.lookup u=some ⟨.type "tuple",d,.seq (List.toArray vs) m,sl⟩∧gT (l.map Str.ofString) vs=true) c h λ c h=>
    D.VX (P:=λ da=>K.lookup t=some ⟨.type c,d,da,sl⟩->∃u vs d m sl,Value.ref t=.ref u∧K.lookup u=some ⟨.type "tuple",d,.seq (List.toArray vs) m,sl⟩∧gT (l.map Str.ofString) vs=true) da (an h).2 λ vs n h2 e=>⟨t,vs.toList,d,n,sl,rfl,by rw[Array.toArray_toList];exact eq_of_beq (an h).1▸e,h2⟩) rfl
theorem Ln{W:Wd}{gt:List GE}{bl:List (Str×Value)}(hW:W.Ok)(hb:∀p∈bl,bootBuiltins p.1=some p.2∧p.1≠"__name__")(h:gtB W.K bl gt=true):wK W gt:=by
 have ent:∀(k:Nat) x v l,gt[k]? =some (x,v,l)->PU W.K v l=true∧pK W x v:=λ k x v l hk=>
  have g:=an (G3.mp h _ (B5 hk))
  ⟨g.1,iQ (P:=λ o=>nsIn W.K mainGlobals x=o->pK W x v) _ g.2 (λ o h hv=>(N0.mp h).elim
   (λ h=>iQ (P:=λ o=>nsIn W.K mainGlobals x=some o->pK W x v) o h (λ v' h hv=>.inl (mg_of hW.IB hW.g ((show v=v' from sY h)▸hv))) hv)
   λ h=>by
    refine A0 (jO.mp (an h).2) λ p hZ=>?_;delta hZ hp q
    have hZ:=hb p hp;delta hZ b1 b2
    clear g hk;obtain rfl:p.1=x:=eq_of_beq (an q).1
    exact .inr ⟨mg_none_of hW.IB hW.g (SG (an h).1▸hv),(show p.2=v from sY (an q).2)▸b1,b2⟩) rfl⟩
 exact⟨λ k x v l hk=>(ent k x v l hk).2,λ k x a hk=>ME (ent k x _ _ hk).1,λ k x v l hk hl=>SS (ent k x v l hk).1 hl⟩
def Bc(o:Option (Option Value))(v:Value):Bool:=OS o λ o=>OS o λ u=>IP u v
theorem rO{o:Option (Option Value)}{v:Value}(h:Bc o v=true):o=some (some v):=iQ (P:=λ o=>o=some (some v)) o h λ o h=>iQ (P:=λ o=>some o=some (some v)) o h λ u h=>sY h▸rfl
def Qn(o:Option (Option Value)):Bool:=OS o ON
theorem GZ{o:Option (Option Value)}(h:Qn o=true):o=some none:=iQ (P:=λ o=>o=some none) o h λ o h=>C7 some (SG h)
def Tp(o:Option Value)(s:String):Bool:=OS o λ v=>V.typ v λ t=>t==s
theorem NI{o:Option Value}{s:String}(h:Tp o s=true):o=some (.type s):=iQ (P:=λ o=>o=some (.type s)) o h λ v h=>V.FU (P:=λ v=>some v=some (.type s)) v h λ t h=>eq_of_beq h▸rfl
def Qb(K:Frag)(C:Addr)(p:String×Addr):Bool:=Bc (findIn K (.ref C) (Str.ofString p.1)) (.ref p.2)&&(Tp (typeIn K (.ref p.2)) "function"&&keepIn K (.ref p.2))
def Yb(K:Frag)(C:Addr):Bool:=Bc (findIn K (.ref C) "__getattribute__") (.builtin "object.__getattribute__")&&Qn (findIn K (.ref C) "__getattr__")
def Xv(K:Frag)(C:Addr)(f:String):Bool:=Qn (findIn K (.ref C) (Str.ofString f))
def Xw(K:Frag)(C:Addr):Bool:=Bc (findIn K (.ref C) "__getattribute__") (.builtin "object.__getattribute__")&&(Bc (findIn K (.ref C) "__setattr__") (.builtin "object.__setattr__")&&(hasDictIn K C&&plainOver K C))
def Jf(K:Frag)(tb:fL):Bool:=tb.meths.all (λ p=>Yb K p.1&&p.2.all (Qb K p.1))&&tb.Dq.all (λ p=>Xw K p.1&&p.2.all (Xv K p.1))
theorem iL{α:Type}:∀{l:List (Addr×α)} {f:Addr} {x:α},l.lookup f=some x->(f,x)∈l
 |(g,y)::r,f,x,h=>by
  rw[I1]at h
  by_cases e:f=g
  ·subst e;rw[O2]at h;cases h;exact .head _
  ·rw[beq_false_of_ne e]at h;exact .tail _ (iL h)
theorem Bu{W:Wd}{tb:fL}(h:Jf W.K tb=true):W.jK tb:=by
 refine⟨λ C f hf=>?_,λ C f a hf=>?_⟩
 ·obtain⟨l,e,hf⟩:∃l,tb.Dq.lookup C=some l∧l.contains f=true:=by
   unfold fL.fld at hf
   cases e:tb.Dq.lookup C with
   |none=>rw[e]at hf;cases hf
   |some l=>rw[e]at hf;exact⟨l,rfl,hf⟩
  have g:=an (G3.mp (an h).2 _ (iL e))
  have g2:=an (an g.1).2
  exact⟨rO (an g.1).1,rO g2.1,GZ (G3.mp g.2 _ (jD.mp hf)),(an g2.2).1,(an g2.2).2⟩
 ·refine A0 (gI.mp hf) λ l hZ=>?_;delta hZ e e2
  have g:=an (G3.mp (an h).1 _ (iL e))
  have g2:=an (G3.mp g.2 _ (dZ e2))
  exact⟨rO (an g.1).1,GZ (an g.1).2,rO g2.1,NI (an g2.2).1,(an g2.2).2⟩
def QN(K:Frag)(C f:Addr):Bool:=makesIn K C&&(Bc (findIn K (.ref C) "__init__") (.ref f)&&Tp (typeIn K (.ref f)) "function")
theorem XN{K:Frag}{C f:Addr}(h:QN K C f=true):Iu K C f:=⟨(an h).1,rO (an (an h).2).1,NI (an (an h).2).2⟩
theorem BE{x:Str}{v:Value}:∀{l:List (Str×Value)},(l.map (·.1)).Nodup->(x,v)∈l->l.reverse.lookup x=some v:=by
 intro l nd h
 induction l with
 |nil=>cases h
 |cons p r ih=>
  rw[I6,N7]at nd
  rw[List.reverse_cons,vS]
  cases h with
  |head=>
   have:r.reverse.lookup x=none:=by
    cases e:r.reverse.lookup x with
    |none=>rfl
    |some u=>
     have:=mQ e
     exact absurd (D2.mpr ⟨(x,u),List.mem_reverse.mp this,rfl⟩) nd.1
   rw[this];simp
  |tail _ h=>rw[ih nd.2 h];simp
structure Ar(W:Wd)(sc:Scope)(fd:FuncData)(ps:List Str)(C D cc f2:Addr)(eE:Str):Prop where
 cl:fd.closure=[(("__class__":Str),cc)]
 cell:∃a b c,W.K.lookup cc=some ⟨a,b,.cell (some (.ref D)),c⟩
 WY:∀x∈sc.names,x.2≠.cell
 Xz:∃o cd,W.K.lookup D=some o∧o.data=.cls cd
 mro:mroIn W.K C (.ref D)=some true
 H2:ks_superIn W.K C D eE=some (some (.ref f2))
 ty:typeIn W.K (.ref f2)=some (.type "function")
 fn:fnIn W.K f2=true
 Vt:nsIn W.K mainGlobals "super"=some none
 t9:nsIn W.K cStatics "thirdparty.any"=some none
 ks:sc.names.lookup ("super":Str)=some .globalImplicit
 kc:sc.names.lookup ("__class__":Str)=some .free
 code:∃DK a b c vs file tf,fd.code=.ref DK∧W.K.lookup DK=some ⟨a,b,.fields vs,c⟩∧vs[2]? =some (.str file tf)∧((W.prog.main.file:Str)==file)=true
 top:(W.prog.main.scope.names.lookup ("super":Str)).isSome=false
 boot:bootBuiltins "super"=some (.type "super")
 self:∃ar r,fd.params.args=ar::r∧sc.names.lookup ar.arg=some .local∧ps[0]? =some ar.arg
 nat:(eE==("__class__":Str))=false
section
variable{W:Wd}{n:Nat}{A:Around}{s:Shared}{σ:PH}
theorem uN{env:Env}{c:Code}{ns:List (Option Str)}{st:Stmt}{rest:List Stmt}{f:TS}{ρ:List PV}{Q:Flow->Shared->Prop}{P:List PV->PH->Prop}(hs:Ex W n ns env st f)(rm:Rm n A)(S:SR W σ s.heap)(F:FR W ns ρ env σ s.heap)
  (h:f ρ σ λ fl O5 B9=>fl=.next∧P O5 B9)(hr:∀O5 B9 s',P O5 B9->SR W B9 s'.heap->FR W ns O5 env B9 s'.heap->HZ env σ s.heap B9 s'.heap->Sm s s'->PySem.wpAt W.M A c (execs rest env) Q (λ _ _=>False) s'):
  PySem.wpAt W.M A c (execs (st::rest) env) Q (λ _ _=>False) s:=by
 refine ks_wpAt_execs_cons (PySem.wpAt_of_wpAny (I7 (hs A s ρ σ _ rm S F h) (λ f s' p=>?_) λ _ _ e=>e))
 intros p fl O5 B9 hZ;generalize hZ.1=P4;obtain rfl:=P4.1;delta P4 P4 q;delta hZ hZ r S' F' x m
 cases r
 exact hr O5 B9 s' q S' F' x m
set_option tactic.hygienic true in
theorem VQ{env:Env}{ns:List (Option Str)}{L a:Addr}{fd:FuncData}{sc:Scope}{ps:List Str}{C D cc f2 dx x:Addr}{eE:Str}{p0 p1 ap pos ep:Pos}{es:List Expr}{g:T (List PV)}{body rest:List Stmt}{ρ:List PV}{Q:Flow->Shared->Prop}{P:PH->Prop}
  (hW:W.Ok)(he:env=callEnv fd L a)(y6:fd.scope=sc)(hk:sc.kind=.function)(hE:U5 env)(X:Ar W sc fd ps C D cc f2 eE)(hf:∃b c d,W.K.lookup a=some ⟨b,c,.func fd,d⟩)(d0:fd.globals=mainGlobals)(fq:fd.builtins=builtinsNs)(a6:fd.params.posonlyargs=[])
  (hs:UU W n ns env es g)(hn:∀y:Str,ps[0]? =some y->ns[0]? =some (some y))(Xe:(ap.endLine==pos.line)=true)(hz:es.length<20)(rm:Rm n A)(S:SR W σ s.heap)(F:FR W ns ρ env σ s.heap)(h0:ρ[0]? =some (.ref x))(hx:σ x=some (.inst C dx))
  (h:g ρ σ λ xs B4=>US W n (.ref f2) (.ref x::xs) B4 λ _ H6=>P H6)
  (hr:∀B9 s',P B9->SR W B9 s'.heap->FR W ns ρ env B9 s'.heap->HZ env σ s.heap B9 s'.heap->Sm s s'->wpAny W.M A (execs rest env) Q (λ _ _=>False) s'):
  PySem.wpAt W.M A (.func body env) (execs (.Expr (.Call (.Attribute (.Call (.Name "super" p0) [] [] p1) eE ap) es [] pos) ep::rest) env) Q (λ _ _=>False) s:=by
 have KX:=hW.IB.keeps S.keep
 intros hf b1 b2 b3 d5
 refine ee4.e (X.code) λ DK c1 c2 c3 hZ=>?_;intros hZ vs file tf Q0;delta Q0 Ia TJ Zu Hy
 refine ee2.e (X.self) λ ar r hZ=>?_;delta hZ Ib Lg Dc
 refine ee3.e (X.cell) λ k1 k2 k3 QR=>?_
 refine ee2.e (X.Xz) λ oD ft hD=>?_
 refine A0 (S.obj x _ hx) λ ob hZ=>?_;delta hZ e1 r1
 cases r1
 have Lh:∀y,env.kindOf y=sc.names.lookup y:=λ y=>by rw[he,<-y6];rfl
 have i0:=KX _ _ hD.1
 have g0:=hD.2
 have yD:env.cells.lookup ("__class__":Str)=some cc:=by rw[he];show fd.closure.lookup _=_;rw[X.cl];rfl
 refine A0 (F.val) λ m hZ=>?_;delta hZ Bf hv
 refine A0 (hv 0 ar.arg (.ref x) (hn _ Dc) h0 (by intro q;cases q)) λ Ov hZ=>?_;delta hZ Pm QP
 have QP:m ar.arg=some Ov:=by
  rcases QP with⟨_,h⟩|⟨k,_⟩
  ·exact h
  ·rw[Lh,Lg]at k;rcases k with k|k<;>cases k
 clear h0 hD hn Dc hv;cases Pm
 refine ks_wpAt_execs_cons (ks_wpAt_Expr_any ?_ (QC hE) rfl)
 rw[arm_eval_Call]
 refine PySem.wpAt_bind (ks_wpAt_super_base (by rw[Lh];exact X.ks) (by rw[Lh];exact X.kc) X.nat (by rw[he];rfl) (KX _ _ d5) rfl (by rw[a6,Ib];rfl) (by rw[he];exact Ia) (KX _ _ TJ) rfl Zu Hy X.top ?_)
 have Ua:env.scope.kind=.function:=hE.kind
 refine ks_loadName_global Ua (by rw[Lh];exact X.ks) (loadGlobal_builtin (mg:=W.mg) (mb:=W.mb) (by rw[hE.glob];exact hW.g.keeps S.keep) (mg_none_of hW.IB hW.g X.Vt) (by rw[hE.blt];exact hW.b.keeps S.keep) ((hW.bi _ (by decide+kernel)).trans X.boot) ⟨rfl,?_⟩)
 refine wpAny_loadName_free Ua (by rw[Lh];exact X.kc) yD ⟨_,KX _ _ QR,rfl⟩ ?_
 refine wpAny_loadName_local Ua (by rw[Lh];exact Lg) Bf QP ?_
 clear ep hE Ib QR TJ Ia he Hy d5 Lh Ua yD Lg Bf a6 QP Zu k1 k2 k3 tf;obtain⟨hh,gg,d,t,os⟩:=s
 refine ks_wpAny_isType_cls i0 g0 ⟨rfl,?_⟩
 refine ks_wpAny_call_super i0 g0 e1 rfl (λ c e=>by cases e) (looks_mroIn KX X.mro) (λ h' e k=>?_)
 refine PySem.wpAt_of_wpAny (B6 (T9 ?_))
 have N5:=S.keeps k
 have VK:kB σ hh σ h':=.keeps k
 clear e1;obtain⟨Um,hC⟩:∃Um,clsIn W.K C=some Um:=by
  have:=X.H2
  unfold ks_superIn at this
  cases q:clsIn W.K C with
  |none=>rw[q]at this;cases this
  |some cd=>exact⟨cd,rfl⟩
 have Qt:alongIn W.K eE ((Um.mro.dropWhile (·!=.ref D)).drop 1)=some (some (.ref f2)):=by have:=X.H2;unfold ks_superIn at this;rw[hC]at this;exact this
 have xC:x≠C:=by
  clear e X;rintro rfl
  unfold clsIn at hC
  cases q:W.K.lookup x with
  |none=>rw[q]at hC;cases hC
  |some o=>
   have:=hW.IB _ _ q
   rw[S.new x (by rw[hx];simp)]at this;cases this
 obtain⟨of,z5,Wx⟩:∃of,h'.get? f2=some of∧of.cls=.type "function":=by
  have Ky:(W.K.lookup f2).map (·.cls)=some (.type "function"):=X.ty
  cases z:W.K.lookup f2 with
  |none=>rw[z]at Ky;cases Ky
  |some of=>rw[z]at Ky;exact⟨of,k _ _ (KX _ _ z),H1 Ky⟩
 have XR:methodCallForm (es.length+([]:List Keyword).length) (backTo pos (starEach es env)) (backToKw pos (keywordEach [] env))=true:=by
  have:(backTo pos (starEach es env)).all (λ x=>!x.1)=true:=by
   have:=hs.1
   unfold backTo
   rw[cR]
   rw[G3]at this ⊢
   intro x hx
   exact this x hx
  unfold methodCallForm
  rw[this]
  show(true&&(true&&decide (es.length+0+0<30)))=true
  simp;lia
 unfold methodCall
 rw[XR]
 have Yo:W.K.In h':=KX.keeps k
 refine B6 (K2 (ks_wpAny_getMethod_super e (looks_opaque Yo X.t9) (l₀:=Um.mro) (λ A Q E s k q=>B6 ((looks_clsIn Yo hC) A _ E s k (D4 q))) rfl Yo Qt z5 Wx xC X.nat ?_))
 unfold methodCallPos
 rw[Xe]
 refine B6 (D4 ?_)
 have kp:=Q6 h' {cls:=.type "method",data:=.fields #[.ref f2,.ref x]}
 have hq:(h'.push {cls:=.type "method",data:=.fields #[.ref f2,.ref x]}).get? h'.objs.size=some (methodObj (.ref f2) (.ref x)):=N6 _ rfl
 have aQ:=N5.keeps kp
 have Jc:kB σ hh σ (h'.push {cls:=.type "method",data:=.fields #[.ref f2,.ref x]}):=.keeps λ b o q=>kp b o (k b o q)
 have pL:=F.eM S Jc
 have nq:σ h'.objs.size=none:=N5.fresh (W7 (D7 _))
 have hp:(backTo pos (starEach es env)).any (·.1)=false:=by
  unfold backTo
  rw[nO]
  have:=hs.1
  rw[G3]at this
  rw[List.any_eq_false]
  intro x hx
  have:=this x hx
  simpa using this
 refine callWith_of (P:=MethP W.K h'.objs.size f2 (.ref x)) (by rw[hp];rfl) (λ hh Yk=>keeps_M X.fn hh Yk) (mH hp ?_)
 refine I7 (hs.2 A ⟨h'.push {cls:=.type "method",data:=.fields #[.ref f2,.ref x]},gg,d,t+1,os⟩ ρ σ _ pos rm aQ pL h) (λ vs aU o8=>?_) λ _ _ z=>z
 intros o8 xs R9 hZ;delta hZ MF v0 SQ eJ gR yG
 have a5:aU.heap.get? h'.objs.size=some (methodObj (.ref f2) (.ref x)):=(gR.bN _ _ hq nq).1
 refine⟨⟨a5,hW.IB.keeps eJ.keep⟩,wpAny_call (method_call a5 (codeAny_mono (MF A aU (.ref x::vs) rm eJ (.cons (.ref x) SQ)) λ r LR p=>?_))⟩
 cases r with
 |error e=>exact p.elim
 |ok fl=>
  cases fl with
  |ret v=>
   intros p pv mU hZ;delta hZ GH Cc CL uM YH
   have tt:=(Jc.trans gR).trans uM
   exact PySem.wpAt_of_wpAny (hr mU LR GH CL (F.eM S tt) (.of tt) (Sm.trans (s':=⟨h'.push {cls:=.type "method",data:=.fields #[.ref f2,.ref x]},gg,d,t+1,os⟩) ⟨_,t+1,rfl⟩ (yG.trans YH)))
  |_=>exact p.elim
end
structure KO where
 p1:PS
 p2:PS
 p3:PS
 args:uL
 post:V0
def Jj(W:Wd)(tb:fL)(n:Nat)(p:KO)(C f2:Addr)(ρ:List PV)(σ:PH)(Q:PV->PH->Prop):Prop:=
 ws W tb n p.p1 ρ σ λ fl ρ σ=>fl=.next∧ws W tb n p.p2 ρ σ λ fl ρ σ=>fl=.next∧ws W tb n p.p3 ρ σ λ fl ρ σ=>fl=.next∧
  ∃x dx,ρ[0]? =some (.ref x)∧σ x=some (.inst C dx)∧DN W tb n p.args ρ σ λ xs σ=>US W n (.ref f2) (.ref x::xs) σ λ _ σ=>S8 W tb n p.post ρ σ λ fl _ B9=>match fl with
   |.ret v=>Q v B9
   |.next=>Q .none B9
   |_=>False
section
variable{W:Wd}{n:Nat}{A:Around}{s:Shared}{σ:PH}
theorem VP{tb:fL}{gt:List GE}{a C D cc f2:Addr}{ps ls:List Str}{sc:Scope}{fd:FuncData}{p:KO}{args:List PV}{Q:PV->PH->Prop}{s1 s2 s3:Stmt}{post:List Stmt}{es:List Expr}{p0 p1 ap pos ep:Pos}{eE:Str}
  (hW:W.Ok)(hT:W.jK tb)(G:wK W gt)(H:Gn W.K a ps [] ls (s1::s2::s3::.Expr (.Call (.Attribute (.Call (.Name "super" p0) [] [] p1) eE ap) es [] pos) ep::post) sc fd)(X:Ar W sc fd ps C D cc f2 eE)
  (Hx:∀x∈ps,sc.names.lookup x=some .local)(m1:mS gt ((ps++ls).map some) sc.names p.p1 s1=true)(m2:mS gt ((ps++ls).map some) sc.names p.p2 s2=true)(m3:mS gt ((ps++ls).map some) sc.names p.p3 s3=true)
  (m4:Hm gt p.args ((ps++ls).map some) sc.names es=true)(m5:XG gt ((ps++ls).map some) sc.names p.post post=true)(Xe:(ap.endLine==pos.line)=true)(hz:es.length<20)
  (h1:args.length=ps.length)(h:Jj W tb n p C f2 (args++List.replicate ls.length .M7) σ Q):US W (n+1) (.ref a) args σ Q:=λ A s vs rm S rv=>by
 refine ee3.e (H.obj) λ oc od Kc ho=>?_
 have KX:=hW.IB.keeps S.keep
 have hl:=rv.length
 have Nl:ps.Nodup:=(O8.mp H.nd).1
 have Ub:(([]:List Value)=[]∧fd.defaults=.none)∨∃t o n,fd.defaults=.ref t∧s.heap.get? t=some o∧o.data=.seq ([]:List Value).toArray n:=by
  rcases H.Uk with⟨_,e⟩|⟨t,c,d,us,k,sl,e,ht,r⟩
  ·exact .inl ⟨rfl,e⟩
  ·cases r;exact .inr ⟨t,_,k,e,KX _ _ ht,rfl⟩
 have bt:=xI (s:=s) (vs:=vs) (ds:=[]) H.po H.ar H.ko H.va H.kw Nl Ub (by lia) (by simp) (by simp;lia)
 simp only[List.drop_nil,C9]at bt
 have Zm:vs.length=ps.length:=by lia
 refine ks_codeAny_call_defAt rm.depth (KX _ _ ho) rfl (hW.nolimit.keeps S.keep) (codeRec_of KX H.code) H.body bt (by rw[H.scope];exact X.WY) (λ x hx=>by rw[H.scope];exact Hx x.1 (List.of_mem_zip hx).1) (λ mF Bf kp=>?_) (by rw[H.scope];exact H.Ij) (by rw[H.scope];exact H.gen) (by rw[H.scope];exact H.kind)
 generalize he:callEnv fd s.heap.objs.size a=env
 have YV:env.scope=sc:=by rw[<-he];exact H.scope
 have YY:∀x,env.kindOf x=sc.names.lookup x:=λ x=>by unfold Env.kindOf;rw[YV]
 have Uj:env.cells=[(("__class__":Str),cc)]:=by rw[<-he];exact X.cl
 have eL:env.locals=s.heap.objs.size:=by rw[<-he];rfl
 have WZ:∀x c,DJ env x≠some c:=λ x c e=>by
  have h1:=mI e
  have h2:=NT e
  rw[Uj,cJ,G0 h2]at h1
  simp at h1
 have hE:U5 env:=by
  refine⟨by rw[YV];exact H.kind,by rw[<-he];exact H.glob,by rw[<-he];exact H.blt,by rw[YV];exact H.gen,by rw[YV];exact H.Ij,λ x nx hk=>?_⟩
  rw[YY]at hk
  rcases hk with k|k
  ·exact absurd rfl (X.WY _ (mem_of_lookupK k))
  ·exact absurd (H.nf _ (mem_of_lookupK k) rfl) nx
 have nL:s.heap.get? env.locals=none:=by rw[eL];exact W7 (D7 _)
 have F:FR W ((ps++ls).map some) (args++List.replicate ls.length .M7) env σ mF:=by
  refine⟨⟨_,by rw[eL];exact Bf,λ i x pv e1 e2 ne=>?_⟩,λ x c e=>absurd e (WZ x c),λ x y c e _=>absurd e (WZ x c),λ q hq=>?_,by simp[h1],oX H.nd⟩
  ·have Rw:=GR e1
   by_cases hi:i<ps.length
   ·rw[I4 hi]at Rw
    rw[I4 (by lia)]at e2
    refine A0 (rv.get e2) λ v hZ=>?_;delta hZ e3 r
    have mz:(x,v)∈ps.zip vs:=by
     have:(ps.zip vs)[i]? =some (x,v):=by rw[List.getElem?_zip_eq_some];exact⟨Rw,e3⟩
     exact B5 this
    have Tk:((ps.zip vs).map (·.1)).Nodup:=by
     rw[show(ps.zip vs).map (·.1)=ps from by rw[List.map_fst_zip (by lia)]];exact Nl
    exact⟨v,r.V7 (.keeps kp),.inl ⟨(YY x).trans (Hx x (List.of_mem_zip mz).1),BE Tk mz⟩⟩
   ·rw[N2 (by lia),gL]at e2
    split at e2
    ·cases e2;exact absurd rfl ne
    ·cases e2
  ·have:s.heap.get? q=none:=by
    rcases hq with rfl|⟨x,e⟩
    ·exact nL
    ·exact absurd e (WZ x q)
   exact⟨S.fresh this,S.fK this⟩
 have N5:=S.keeps kp
 have Po:Rm n (A.deeper env):=rm.Yx.deeper hE
 have Qq:∀x,env.kindOf x=sc.names.lookup x:=YY
 refine ks_wpAt_mono (Q:=λ f s'=>∃(fl:Fl) (B9:PH),(match fl with|.ret v=>Q v B9|.next=>Q .none B9|_=>False)∧Of s'.heap fl f∧SR W B9 s'.heap∧kB σ s.heap B9 s'.heap∧Sm s s') (E:=λ _ _=>False) ?_ (λ f s' p=>?_) λ _ _ e=>e.elim
 ·have fin:∀(B9:PH) (h':Heap),HZ env σ mF B9 h'->kB σ s.heap B9 h':=λ B9 h' x=>⟨λ b o e q=>x.bN b o (kp b o e) q (λ w=>by
   clear q;rcases w with rfl|⟨y,w⟩
   ·rw[nL]at e;cases e
   ·exact absurd w (WZ y b)),x.ID⟩
  refine uN (s:={s with heap:=mF,toks:=_}) (QF hW hT G hE Qq _ _ m1) Po N5 F h λ o4 aK t1 q1 S1 F1 x1 e1=>?_
  refine uN (QF hW hT G hE Qq _ _ m2) Po S1 F1 q1 λ o3 W9 t2 q2 S2 F2 x2 e2=>?_
  refine uN (QF hW hT G hE Qq _ _ m3) Po S2 F2 q2 λ du Y8 t3 Ve S3 F3 x3 e3=>?_
  intros Ve x dx hZ;delta hZ g1 g2 q3
  clear F F1 F2 KX S S1 S2 N5 bt eL Uj YY YV h h1 Ub hl Hx Bf kp Zm m1 m2 m3 nL WZ Nl q1 q2 rm rv o4 o3;subst he
  refine VQ (ns:=(ps++ls).map some) hW rfl H.scope H.kind hE X ⟨_,_,_,ho⟩ H.glob H.blt H.po (vR hW hT G p.args _ _ es m4 _ hE Qq) (λ y hy=>?_) Xe hz Po S3 F3 g1 g2 q3 λ bK t4 q4 S4 F4 x4 e4=>?_
  ·rw[H9]
   have h0:0<ps.length:=(D3.mp hy).1
   rw[I4 h0,hy];rfl
  refine I7 (mA hW hT G hE Qq _ _ m5 _ t4 _ bK _ Po S4 F4 q4) (λ f s' p=>?_) λ _ _ e=>e
  intros p fl O5 B9 hZ;delta hZ q r S5 F5 x5 e5
  exact⟨fl,B9,q,r,S5,fin _ _ ((((x1.trans x2).trans x3).trans x4).trans x5),(Sm.mk' s mF _).trans ((((e1.trans e2).trans e3).trans e4).trans e5)⟩
 ·intros p fl hZ;intros hZ B9 Q0;delta Q0 q r S' x m
  cases r with
  |next=>exact⟨.none,B9,q,.none,S',x,m⟩
  |ret r=>exact⟨_,B9,q,r,S',x,m⟩
  |_=>exact q.elim
end
def Wj(o:Option NameKind)(k:NameKind):Bool:=o==some k
def Rz(K:Frag)(prog:Program)(v:Value):Bool:=V.ref v λ c=>OS (K.lookup c) λ o=>D.fields o.data λ vs=>OS vs[2]? λ v=>V.str v λ file _=>(prog.main.file:Str)==file
theorem Fa{K:Frag}{prog:Program}{v:Value}(h:Rz K prog v=true):∃DK a b c vs file tf,v=.ref DK∧K.lookup DK=some ⟨a,b,.fields vs,c⟩∧vs[2]? =some (.str file tf)∧((prog.main.file:Str)==file)=true:=
 V.vA (P:=λ v=>∃DK a b c vs file tf,v=.ref DK∧K.lookup DK=some ⟨a,b,.fields vs,c⟩∧vs[2]? =some (.str file tf)∧((prog.main.file:Str)==file)=true) v h λ t h=>iQ (P:=λ o=>K.lookup t=o->∃DK a b c vs file tf,Value.ref t=.ref DK∧K.lookup DK=some ⟨a,b,.fields vs,c⟩∧vs[2]? =some (.str file tf)∧((prog.main.file:Str)==file)=true) _ h (λ o=>match o with
  |⟨c,d,da,sl⟩=>λ h=>D.TO (P:=λ da=>K.lookup t=some ⟨c,d,da,sl⟩->∃DK a b c vs file tf,Value.ref t=.ref DK∧K.lookup DK=some ⟨a,b,.fields vs,c⟩∧vs[2]? =some (.str file tf)∧((prog.main.file:Str)==file)=true) da h λ vs h e=>
   iQ (P:=λ o=>vs[2]? =o->∃DK a b c vs file tf,Value.ref t=.ref DK∧K.lookup DK=some ⟨a,b,.fields vs,c⟩∧vs[2]? =some (.str file tf)∧((prog.main.file:Str)==file)=true) _ h (λ v h=>V.zN (P:=λ v=>vs[2]? =some v->∃DK a b c vs file tf,Value.ref t=.ref DK∧K.lookup DK=some ⟨a,b,.fields vs,c⟩∧vs[2]? =some (.str file tf)∧((prog.main.file:Str)==file)=true) v h
    λ file tf h e2=>⟨t,c,d,sl,vs,file,tf,rfl,e,e2,h⟩) rfl) rfl
def Sd(K:Frag)(cc D:Addr):Bool:=OS (K.lookup cc) λ o=>Mine.Internal.D.cell o.data λ v=>OS v λ v=>V.ref v λ d=>Nat.beq d D
theorem Fg{K:Frag}{cc D:Addr}(h:Sd K cc D=true):∃a b c,K.lookup cc=some ⟨a,b,.cell (some (.ref D)),c⟩:=iQ (P:=λ o=>K.lookup cc=o->∃a b c,K.lookup cc=some ⟨a,b,.cell (some (.ref D)),c⟩) _ h (λ o=>match o with
  |⟨c,d,da,sl⟩=>λ h=>Mine.Internal.D.Ff (P:=λ da=>K.lookup cc=some ⟨c,d,da,sl⟩->∃a b c,K.lookup cc=some ⟨a,b,.cell (some (.ref D)),c⟩) da h λ v h=>iQ (P:=λ v=>K.lookup cc=some ⟨c,d,.cell v,sl⟩->∃a b c,K.lookup cc=some ⟨a,b,.cell (some (.ref D)),c⟩) v h
   λ v h=>V.vA (P:=λ v=>K.lookup cc=some ⟨c,d,.cell (some v),sl⟩->∃a b c,K.lookup cc=some ⟨a,b,.cell (some (.ref D)),c⟩) v h λ x h e=>⟨c,d,sl,X8 h▸e⟩) rfl
def Sb(cl:List (Str×Addr))(cc:Addr):Bool:=L1 cl λ p=>p.1==("__class__":Str)&&Nat.beq p.2 cc
theorem Fd{cl:List (Str×Addr)}{cc:Addr}(h:Sb cl cc=true):cl=[(("__class__":Str),cc)]:=lL (P:=λ cl=>cl=[(("__class__":Str),cc)]) cl h λ p h=>C7 (·::[]) (kG (eq_of_beq (an h).1) (X8 (an h).2))
def PD(bd:List Stmt)(f:Stmt->Stmt->Stmt->List Expr->Pos->Pos->List Stmt->Bool):Bool:=LC bd λ s1 bd=>LC bd λ s2 bd=>LC bd λ s3 bd=>LC bd λ s post=>S.expr s λ e _=>E.call e λ g es ks pos=>LN ks&&E.attr g λ g eE ap=>eE==("__init__":Str)&&
 E.call g λ g a2 k2 _=>LN a2&&(LN k2&&E.name g λ nm _=>nm==("super":Str)&&f s1 s2 s3 es ap pos post)
theorem LU{P:List Stmt->Prop}{f:Stmt->Stmt->Stmt->List Expr->Pos->Pos->List Stmt->Bool}(bd:List Stmt)(h:PD bd f=true)
  (q:∀s1 s2 s3 p0 p1 ap es pos ep post,f s1 s2 s3 es ap pos post=true->P (s1::s2::s3::.Expr (.Call (.Attribute (.Call (.Name "super" p0) [] [] p1) "__init__" ap) es [] pos) ep::post)):P bd:=
 iR bd h λ s1 bd h=>iR (P:=λ bd=>P (s1::bd)) bd h λ s2 bd h=>iR (P:=λ bd=>P (s1::s2::bd)) bd h λ s3 bd h=>iR (P:=λ bd=>P (s1::s2::s3::bd)) bd h λ s post h=>
  S.RA (P:=λ s=>P (s1::s2::s3::s::post)) s h λ e ep h=>E.mJ (P:=λ e=>P (s1::s2::s3::.Expr e ep::post)) e h λ g es ks pos h=>cQ (P:=λ ks=>P (s1::s2::s3::.Expr (.Call g es ks pos) ep::post)) ks (an h).1<|
  E.zE (P:=λ g=>P (s1::s2::s3::.Expr (.Call g es [] pos) ep::post)) g (an h).2 λ g eE ap h=>E.mJ (P:=λ g=>P (s1::s2::s3::.Expr (.Call (.Attribute g eE ap) es [] pos) ep::post)) g (an h).2 λ g a2 k2 p1 h2=>
  cQ (P:=λ a2=>P (s1::s2::s3::.Expr (.Call (.Attribute (.Call g a2 k2 p1) eE ap) es [] pos) ep::post)) a2 (an h2).1<|cQ (P:=λ k2=>P (s1::s2::s3::.Expr (.Call (.Attribute (.Call g [] k2 p1) eE ap) es [] pos) ep::post)) k2 (an (an h2).2).1<|
  E.cI (P:=λ g=>P (s1::s2::s3::.Expr (.Call (.Attribute (.Call g [] [] p1) eE ap) es [] pos) ep::post)) g (an (an h2).2).2 λ nm p0 h3=>eq_of_beq (an h).1▸eq_of_beq (an h3).1▸q s1 s2 s3 p0 p1 ap es pos ep post (an h3).2
def Mj(K:Frag)(D:Addr):Bool:=(K.lookup D).any (·.data.ctorIdx==8)
theorem Fc{K:Frag}{D:Addr}(h:Mj K D=true):∃o cd,K.lookup D=some o∧o.data=.cls cd:=by
 unfold Mj at h
 cases q:K.lookup D with
 |none=>rw[q]at h;cases h
 |some o=>rw[q]at h;exact Data.cls.elim (motive:=λ d=>o.data=d->∃o' cd,some o=some o'∧o'.data=.cls cd) o.data (eq_of_beq h) (λ cd e=>⟨o,cd,rfl,e⟩) rfl
def Bx(K:Frag)(gt:List GE)(prog:Program)(a:Addr)(ps ls:List Str)(p:KO)(C D cc f2:Addr):Bool:=fnAt K a λ fd body=>Xs K fd ps [] ls&&(ps.all (λ x=>Wj (fd.scope.names.lookup x) .local)&&(Sb fd.closure cc&&(Sd K cc D&&(fd.scope.names.all (λ x=>x.2 !=.cell)&&
 (Mj K D&&(mroIn K C (.ref D)==some true&&(Bc (ks_superIn K C D "__init__") (.ref f2)&&(Tp (typeIn K (.ref f2)) "function"&&(fnIn K f2&&(Qn (nsIn K mainGlobals "super")&&(Qn (nsIn K cStatics "thirdparty.any")&&(Wj (fd.scope.names.lookup ("super":Str)) .globalImplicit&&
 (Wj (fd.scope.names.lookup ("__class__":Str)) .free&&(Rz K prog fd.code&&(!(prog.main.scope.names.lookup ("super":Str)).isSome&&(!ps.isEmpty&&PD body λ s1 s2 s3 es ap pos post=>mS gt ((ps++ls).map some) fd.scope.names p.p1 s1&&(mS gt ((ps++ls).map some) fd.scope.names p.p2 s2&&
 (mS gt ((ps++ls).map some) fd.scope.names p.p3 s3&&(Hm gt p.args ((ps++ls).map some) fd.scope.names es&&(XG gt ((ps++ls).map some) fd.scope.names p.post post&&(ap.endLine==pos.line&&decide (es.length<20))))))))))))))))))))))
theorem Bw{W:Wd}{n:Nat}{σ:PH}{tb:fL}{gt:List GE}{a C D cc f2:Addr}{ps ls:List Str}{p:KO}{args:List PV}{Q:PV->PH->Prop}(hW:W.Ok)(hT:W.jK tb)(G:wK W gt)(hb:bootBuiltins "super"=some (.type "super"))
  (h:Bx W.K gt W.prog a ps ls p C D cc f2=true)(h1:args.length=ps.length)(hq:Jj W tb n p C f2 (args++List.replicate ls.length .M7) σ Q):US W (n+1) (.ref a) args σ Q:=
 QY h λ fd body ho bc h=>
  have h2:=an (an h).2
  have h3:=an h2.2
  have h4:=an h3.2
  have h5:=an h4.2
  have h6:=an h5.2
  have h7:=an h6.2
  have h8:=an h7.2
  have h9:=an h8.2
  have Lm:=an h9.2
  have Rn:=an Lm.2
  have Rk:=an Rn.2
  have Rj:=an Rk.2
  have Ri:=an Rj.2
  have Rh:=an Ri.2
  have i5:=an Rh.2
  have Xn:=an i5.2
  have H:=YC (a:=a) (an h).1 ho bc
  have Hx:∀x∈ps,fd.scope.names.lookup x=some .local:=λ x hx=>eq_of_beq (G3.mp h2.1 x hx)
  have self:∃ar r,fd.params.args=ar::r∧fd.scope.names.lookup ar.arg=some .local∧ps[0]? =some ar.arg:=by
   have ar:=H.ar
   match ha:fd.params.args with
   |[]=>rw[ha]at ar;rw[<-ar]at Xn;exact(C5 Xn.1).elim
   |y::q=>rw[ha]at ar;exact⟨y,q,rfl,Hx _ (ar▸.head _),by rw[<-ar];rfl⟩
  have X:Ar W fd.scope fd ps C D cc f2 "__init__":=⟨Fd h3.1,Fg h4.1,λ x hx=>bG.mp (G3.mp h5.1 x hx),Fc h6.1,eq_of_beq h7.1,rO h8.1,NI h9.1,Lm.1,GZ Rn.1,GZ Rk.1,eq_of_beq Rj.1,eq_of_beq Ri.1,Fa Rh.1,AW i5.1,hb,self,by decide⟩
  LU (P:=λ bd=>Gn W.K a ps [] ls bd fd.scope fd->US W (n+1) (.ref a) args σ Q) body Xn.2 (λ s1 s2 s3 p0 p1 ap es pos ep post k H=>
   have k2:=an (an k).2
   have k3:=an k2.2
   have k4:=an k3.2
   have k5:=an k4.2
   have k6:=an k5.2
   VP hW hT G H X Hx (an k).1 k2.1 k3.1 k4.1 k5.1 k6.1 (D0 k6.2) h1 hq) H
def Kb:V0:=(.cons (.asg 1 (.list .nil)) (.cons (.asg 2 (.int 0)) (.cons (.asg 3 (.loc 0)) (.cons (.IA (.cmp .Gt (.loc 3) (.int 0)) (.cons (.ite (.cmp .Eq (.bin .BitAnd (.loc 3) (.int 1)) (.int 1)) (.cons (.expr (.H2 (.loc 1) "append" (.cons (.loc 2) .nil))) .nil) .nil) (.cons (.asg 3 (.bin .RShift (.loc 3) (.int 1))) (.cons (.asg 2 (.bin .Add (.loc 2) (.int 1))) .nil)))) (.cons (.ret (.loc 1)) .nil)))))
def JK:V0:=(.cons (.Q1 (.loc 0) "number" (.loc 1)) (.cons (.Q1 (.loc 0) "left" (.loc 2)) (.cons (.Q1 (.loc 0) "right" (.loc 3)) (.cons (.Q1 (.loc 0) "level_of" (.loc 4)) (.cons (.Q1 (.loc 0) "action" (.loc 5)) (.cons (.Q1 (.loc 0) "line" (.loc 6)) (.cons (.Q1 (.loc 0) "before" (.loc 7)) .nil)))))))
def AK:V0:=(.cons (.Q1 (.loc 0) "names" (.loc 1)) (.cons (.Q1 (.loc 0) "terminal_count" (.loc 2)) (.cons (.Q1 (.loc 0) "rules" (.loc 3)) (.cons (.Q1 (.loc 0) "levels" (.loc 4)) (.cons (.Q1 (.loc 0) "expect" (.loc 5)) (.cons (.Q1 (.loc 0) "start" (.loc 6)) (.cons (.Q1 (.loc 0) "by_left" (.comp (.list .nil) 0 (.attr (.loc 0) "names") (.bool true))) (.cons (.Q1 (.loc 0) "offsets" (.list .nil)) (.cons (.Q1 (.loc 0) "owners" (.list .nil)) (.cons (.R6 7 (.attr (.loc 0) "rules") (.cons (.expr (.H2 (.sub (.attr (.loc 0) "by_left") (.attr (.loc 7) "left")) "append" (.cons (.attr (.loc 7) "number") .nil))) (.cons (.expr (.H2 (.attr (.loc 0) "offsets") "append" (.cons (.call 1 (.builtin "len") (.cons (.attr (.loc 0) "owners") .nil)) .nil))) (.cons (.expr (.H2 (.attr (.loc 0) "owners") "extend" (.cons (.bin .Mult (.list (.cons (.attr (.loc 7) "number") .nil)) (.bin .Add (.call 1 (.builtin "len") (.cons (.attr (.loc 7) "right") .nil)) (.int 1))) .nil))) .nil)))) (.cons (.Q1 (.loc 0) "item_count" (.call 1 (.builtin "len") (.cons (.attr (.loc 0) "owners") .nil))) .nil)))))))))))
def lV:V0:=(.cons (.ret (.call 1 (.builtin "len") (.cons (.attr (.loc 0) "names") .nil))) .nil)
def nP:V0:=(.cons (.ret (.cmp .Lt (.loc 1) (.attr (.loc 0) "terminal_count"))) .nil)
def rJ:V0:=(.cons (.ret (.call 2 (.type "list") (.cons (.sub (.attr (.loc 0) "by_left") (.loc 1)) .nil))) .nil)
def AJ:V0:=(.cons (.ret (.bin .Add (.sub (.attr (.loc 0) "offsets") (.loc 1)) (.loc 2))) .nil)
def tP:V0:=(.cons (.ret (.sub (.attr (.loc 0) "owners") (.loc 1))) .nil)
def vH:V0:=(.cons (.ret (.bin .Sub (.loc 1) (.sub (.attr (.loc 0) "offsets") (.sub (.attr (.loc 0) "owners") (.loc 1))))) .nil)
def xW:V0:=(.cons (.asg 2 (.attr (.sub (.attr (.loc 0) "rules") (.sub (.attr (.loc 0) "owners") (.loc 1))) "right")) (.cons (.asg 3 (.bin .Sub (.loc 1) (.sub (.attr (.loc 0) "offsets") (.sub (.attr (.loc 0) "owners") (.loc 1))))) (.cons (.ret (.ite (.cmp .Lt (.loc 3) (.call 1 (.builtin "len") (.cons (.loc 2) .nil))) (.sub (.loc 2) (.loc 3)) (.neg (.int 1)))) .nil)))
def JC:V0:=(.cons (.asg 3 (.sub (.attr (.loc 0) "rules") (.loc 1))) (.cons (.asg 4 (.comp (.sub (.attr (.loc 0) "names") (.loc 5)) 0 (.attr (.loc 3) "right") (.bool true))) (.cons (.ite (.cmp .GtE (.loc 2) (.int 0)) (.cons (.expr (.H2 (.loc 4) "insert" (.cons (.loc 2) (.cons (.str ".") .nil)))) .nil) .nil) (.cons (.ret (.bin .Add (.bin .Add (.sub (.attr (.loc 0) "names") (.attr (.loc 3) "left")) (.str " : ")) (.H2 (.str " ") "join" (.cons (.loc 4) .nil)))) .nil))))
def xT:V0:=(.cons (.asg 2 (.neg (.int 1))) (.cons (.R6 3 (.loc 0) (.cons (.ite (.cmp .Lt (.loc 3) (.loc 1)) (.cons (.asg 2 (.loc 3)) .nil) .nil) .nil)) (.cons (.ret (.loc 2)) .nil)))
def xQ:V0:=(.cons (.asg 2 (.list .nil)) (.cons (.rS [3,4] (.loc 0) (.cons (.ite (.or (.cmp .Eq (.loc 3) (.str "error")) (.cmp .In (.wP (.loc 3) .absent (.int 1)) (.tup (.cons (.str "") (.cons (.str "$") (.cons (.str "'") .nil)))))) (.cons .any .nil) .nil) (.cons (.ite (.cmp .NotIn (.loc 3) (.loc 2)) (.cons (.expr (.H2 (.loc 2) "append" (.cons (.loc 3) .nil))) .nil) .nil) .nil))) (.cons (.asg 5 (.ite (.or (.cmp .IsNot (.loc 1) .none) (.cmp .Eq (.loc 2) (.list .nil))) (.loc 1) (.sub (.loc 2) (.int 0)))) (.cons (.ite (.cmp .NotIn (.loc 5) (.loc 2)) (.cons .any .nil) .nil) (.cons (.asg 6 (.call 2 (.type "list") (.cons (.gs 8 ["$end","error","$undefined"]) .nil))) (.cons (.rS [3,4] (.loc 0) (.cons (.R6 7 (.loc 4) (.cons (.ite (.and (.cmp .NotIn (.loc 7) (.loc 2)) (.cmp .NotIn (.loc 7) (.loc 6))) (.cons (.expr (.H2 (.loc 6) "append" (.cons (.loc 7) .nil))) .nil) .nil) .nil)) .nil)) (.cons (.asg 8 (.call 1 (.builtin "len") (.cons (.loc 6) .nil))) (.cons (.asg 6 (.bin .Add (.bin .Add (.loc 6) (.list (.cons (.str "$accept") .nil))) (.loc 2))) (.cons (.asg 9 (.list (.cons (.call 4 (.ref 99) (.cons (.int 0) (.cons (.loc 8) (.cons (.tup (.cons (.H2 (.loc 6) "index" (.cons (.loc 5) .nil)) (.cons (.gi 7 (0)) .nil))) (.cons (.gi 7 (0)) .nil))))) .nil))) (.cons (.rS [3,4] (.loc 0) (.cons (.asg 10 (.call 6 (.type "tuple") (.cons (.comp (.H2 (.loc 6) "index" (.cons (.loc 11) .nil)) 0 (.loc 4) (.bool true)) .nil))) (.cons (.expr (.H2 (.loc 9) "append" (.cons (.call 4 (.ref 99) (.cons (.call 1 (.builtin "len") (.cons (.loc 9) .nil)) (.cons (.H2 (.loc 6) "index" (.cons (.loc 3) .nil)) (.cons (.loc 10) (.cons (.call 5 (.ref 198) (.cons (.loc 10) (.cons (.loc 8) .nil))) .nil))))) .nil))) .nil))) (.cons (.ret (.call 3 (.ref 181) (.cons (.loc 6) (.cons (.loc 8) (.cons (.loc 9) (.cons .dO (.cons .none (.cons (.H2 (.loc 6) "index" (.cons (.loc 5) .nil)) .nil)))))))) .nil)))))))))))
def WN:V0:=(.cons (.asg 2 (.call 2 (.type "list") (.cons (.loc 1) .nil))) (.cons (.asg 3 (.list .nil)) (.cons (.asg 4 (.comp (.list .nil) 0 (.loc 2) (.bool true))) (.cons (.asg 5 (.list .nil)) (.cons (.R6 6 (.attr (.loc 0) "rules") (.cons (.asg 7 (.int 0)) (.cons (.R6 8 (.attr (.loc 6) "right") (.cons (.ite (.not (.sub (.loc 2) (.loc 8))) (.cons (.asg 7 (.bin .Add (.loc 7) (.int 1))) (.cons (.expr (.H2 (.sub (.loc 4) (.loc 8)) "append" (.cons (.attr (.loc 6) "number") .nil))) .nil)) .nil) .nil)) (.cons (.expr (.H2 (.loc 3) "append" (.cons (.loc 7) .nil))) .nil)))) (.cons (.R6 6 (.attr (.loc 0) "rules") (.cons (.ite (.and (.cmp .Eq (.sub (.loc 3) (.attr (.loc 6) "number")) (.int 0)) (.not (.sub (.loc 2) (.attr (.loc 6) "left")))) (.cons (.aM (.loc 2) (.attr (.loc 6) "left") (.bool true)) (.cons (.expr (.H2 (.loc 5) "append" (.cons (.attr (.loc 6) "left") .nil))) .nil)) .nil) .nil)) (.cons (.asg 9 (.int 0)) (.cons (.IA (.cmp .Lt (.loc 9) (.call 1 (.builtin "len") (.cons (.loc 5) .nil))) (.cons (.R6 10 (.sub (.loc 4) (.sub (.loc 5) (.loc 9))) (.cons (.aM (.loc 3) (.loc 10) (.bin .Sub (.sub (.loc 3) (.loc 10)) (.int 1))) (.cons (.asg 11 (.attr (.sub (.attr (.loc 0) "rules") (.loc 10)) "left")) (.cons (.ite (.and (.cmp .Eq (.sub (.loc 3) (.loc 10)) (.int 0)) (.not (.sub (.loc 2) (.loc 11)))) (.cons (.aM (.loc 2) (.loc 11) (.bool true)) (.cons (.expr (.H2 (.loc 5) "append" (.cons (.loc 11) .nil))) .nil)) .nil) .nil)))) (.cons (.asg 9 (.bin .Add (.loc 9) (.int 1))) .nil))) (.cons (.ret (.loc 2)) .nil)))))))))
def MO:V0:=(.cons (.ret (.call 9 (.ref 209) (.cons (.loc 0) (.cons (.bin .Mult (.list (.cons (.bool false) .nil)) (.H2 (.loc 0) "symbol_count" .nil)) .nil)))) .nil)
def GK:V0:=(.cons (.asg 1 (.call 2 (.type "list") (.cons (.loc 0) .nil))) (.cons (.R6 2 (.call 10 (.type "range") (.cons (.call 1 (.builtin "len") (.cons (.loc 1) .nil)) .nil)) (.cons (.R6 3 (.call 10 (.type "range") (.cons (.call 1 (.builtin "len") (.cons (.loc 1) .nil)) .nil)) (.cons (.ite (.cmp .Eq (.bin .BitAnd (.bin .RShift (.sub (.loc 1) (.loc 3)) (.loc 2)) (.int 1)) (.int 1)) (.cons (.aM (.loc 1) (.loc 3) (.bin .BitOr (.sub (.loc 1) (.loc 3)) (.sub (.loc 1) (.loc 2)))) .nil) .nil) .nil)) .nil)) (.cons (.ret (.loc 1)) .nil)))
def AH:V0:=(.cons (.Q1 (.loc 0) "number" (.loc 1)) (.cons (.Q1 (.loc 0) "kernel" (.loc 2)) (.cons (.Q1 (.loc 0) "symbol" (.loc 3)) (.cons (.Q1 (.loc 0) "items" (.list .nil)) (.cons (.Q1 (.loc 0) "moves" .dO) (.cons (.Q1 (.loc 0) "reductions" (.list .nil)) .nil))))))
def AI:V0:=(.cons (.ret (.H2 (.attr (.loc 0) "moves") "get" (.cons (.loc 1) (.cons (.gi 11 (-1)) .nil)))) .nil)
def CZ:V0:=(.cons (.Q1 (.loc 0) "grammar" (.loc 1)) (.cons (.asg 2 (.bin .Mult (.list (.cons (.int 0) .nil)) (.H2 (.loc 1) "symbol_count" .nil))) (.cons (.R6 3 (.attr (.loc 1) "rules") (.cons (.ite (.cmp .Gt (.call 1 (.builtin "len") (.cons (.attr (.loc 3) "right") .nil)) (.int 0)) (.cons (.aM (.loc 2) (.attr (.loc 3) "left") (.bin .BitOr (.sub (.loc 2) (.attr (.loc 3) "left")) (.bin .LShift (.int 1) (.sub (.attr (.loc 3) "right") (.int 0))))) .nil) .nil) .nil)) (.cons (.Q1 (.loc 0) "firsts" (.call 12 (.ref 223) (.cons (.loc 2) .nil))) .nil))))
def xY:V0:=(.cons (.asg 2 (.int 0)) (.cons (.R6 3 (.loc 1) (.cons (.asg 4 (.H2 (.attr (.loc 0) "grammar") "after" (.cons (.loc 3) .nil))) (.cons (.ite (.cmp .GtE (.loc 4) (.int 0)) (.cons (.asg 2 (.bin .BitOr (.bin .BitOr (.loc 2) (.bin .LShift (.int 1) (.loc 4))) (.sub (.attr (.loc 0) "firsts") (.loc 4)))) .nil) .nil) .nil))) (.cons (.ret (.loc 2)) .nil)))
def AM:V0:=(.cons (.asg 2 (.list .nil)) (.cons (.R6 3 (.call 14 (.ref 80) (.cons (.H2 (.loc 0) "wanted" (.cons (.loc 1) .nil)) .nil)) (.cons (.R6 4 (.H2 (.attr (.loc 0) "grammar") "rules_of" (.cons (.loc 3) .nil)) (.cons (.asg 5 (.H2 (.attr (.loc 0) "grammar") "item" (.cons (.loc 4) (.cons (.int 0) .nil)))) (.cons (.ite (.cmp .NotIn (.loc 5) (.loc 1)) (.cons (.expr (.H2 (.loc 2) "append" (.cons (.loc 5) .nil))) .nil) .nil) .nil))) .nil)) (.cons (.ret (.call 13 (.builtin "sorted") (.cons (.loc 2) .nil))) .nil)))
def AL:V0:=(.cons (.ret (.bin .Add (.call 13 (.builtin "sorted") (.cons (.loc 1) .nil)) (.H2 (.loc 0) "added" (.cons (.loc 1) .nil)))) .nil)
def MQ:V0:=(.cons (.ret (.H2 (.loc 0) "item" (.cons (.H2 (.loc 0) "rule_of" (.cons (.loc 1) .nil)) (.cons (.bin .Add (.H2 (.loc 0) "dot_of" (.cons (.loc 1) .nil)) (.int 1)) .nil)))) .nil)
def vD:V0:=(.cons (.asg 2 .dO) (.cons (.R6 3 (.loc 1) (.cons (.asg 4 (.H2 (.loc 0) "after" (.cons (.loc 3) .nil))) (.cons (.ite (.cmp .GtE (.loc 4) (.int 0)) (.cons (.ite (.cmp .NotIn (.loc 4) (.loc 2)) (.cons (.aM (.loc 2) (.loc 4) (.list .nil)) .nil) .nil) (.cons (.expr (.H2 (.sub (.loc 2) (.loc 4)) "append" (.cons (.call 15 (.ref 307) (.cons (.loc 0) (.cons (.loc 3) .nil))) .nil))) .nil)) .nil) .nil))) (.cons (.asg 5 .dO) (.cons (.R6 4 (.call 13 (.builtin "sorted") (.cons (.loc 2) .nil)) (.cons (.aM (.loc 5) (.loc 4) (.call 6 (.type "tuple") (.cons (.call 13 (.builtin "sorted") (.cons (.sub (.loc 2) (.loc 4)) .nil)) .nil))) .nil)) (.cons (.ret (.loc 5)) .nil)))))
def vE:V0:=(.cons (.asg 2 (.list .nil)) (.cons (.R6 3 (.loc 1) (.cons (.ite (.and (.cmp .Lt (.H2 (.loc 0) "after" (.cons (.loc 3) .nil)) (.int 0)) (.cmp .NotEq (.H2 (.loc 0) "rule_of" (.cons (.loc 3) .nil)) (.int 0))) (.cons (.expr (.H2 (.loc 2) "append" (.cons (.H2 (.loc 0) "rule_of" (.cons (.loc 3) .nil)) .nil))) .nil) .nil) .nil)) (.cons (.ret (.call 13 (.builtin "sorted") (.cons (.loc 2) .nil))) .nil)))
def vJ:V0:=(.cons (.Q1 (.loc 0) "grammar" (.loc 1)) (.cons (.Q1 (.loc 0) "states" (.loc 2)) .nil))
def vK:V0:=(.cons (.ret (.H2 (.sub (.attr (.loc 0) "states") (.loc 1)) "goto" (.cons (.loc 2) .nil))) .nil)
def AN:V0:=(.cons (.Q1 (.loc 0) "grammar" (.loc 1)) (.cons (.Q1 (.loc 0) "closer" (.call 16 (.ref 296) (.cons (.loc 1) .nil))) (.cons (.Q1 (.loc 0) "states" (.list .nil)) (.cons (.Q1 (.loc 0) "numbers" .dO) .nil))))
def qD:V0:=(.cons (.ite (.cmp .NotIn (.loc 1) (.attr (.loc 0) "numbers")) (.cons (.aM (.attr (.loc 0) "numbers") (.loc 1) (.call 1 (.builtin "len") (.cons (.attr (.loc 0) "states") .nil))) (.cons (.expr (.H2 (.attr (.loc 0) "states") "append" (.cons (.call 17 (.ref 254) (.cons (.call 1 (.builtin "len") (.cons (.attr (.loc 0) "states") .nil)) (.cons (.loc 1) (.cons (.loc 2) .nil)))) .nil))) .nil)) .nil) (.cons (.ret (.sub (.attr (.loc 0) "numbers") (.loc 1))) .nil))
def vI:V0:=(.cons (.Q1 (.loc 1) "items" (.H2 (.attr (.loc 0) "closer") "close" (.cons (.attr (.loc 1) "kernel") .nil))) (.cons (.Q1 (.loc 1) "reductions" (.call 19 (.ref 321) (.cons (.attr (.loc 0) "grammar") (.cons (.attr (.loc 1) "items") .nil)))) (.cons (.asg 2 (.call 18 (.ref 314) (.cons (.attr (.loc 0) "grammar") (.cons (.attr (.loc 1) "items") .nil)))) (.cons (.R6 3 (.loc 2) (.cons (.aM (.attr (.loc 1) "moves") (.loc 3) (.H2 (.loc 0) "number_of" (.cons (.sub (.loc 2) (.loc 3)) (.cons (.loc 3) .nil)))) .nil)) .nil))))
def xZ:V0:=(.cons (.expr (.H2 (.loc 0) "number_of" (.cons (.tup (.cons (.H2 (.attr (.loc 0) "grammar") "item" (.cons (.int 0) (.cons (.int 0) .nil))) .nil)) (.cons (.gi 11 (-1)) .nil)))) (.cons (.asg 1 (.int 0)) (.cons (.IA (.cmp .Lt (.loc 1) (.call 1 (.builtin "len") (.cons (.attr (.loc 0) "states") .nil))) (.cons (.expr (.H2 (.loc 0) "expand" (.cons (.sub (.attr (.loc 0) "states") (.loc 1)) .nil))) (.cons (.asg 1 (.bin .Add (.loc 1) (.int 1))) .nil))) (.cons (.ret (.call 20 (.ref 373) (.cons (.attr (.loc 0) "grammar") (.cons (.attr (.loc 0) "states") .nil)))) .nil))))
def Ch:V0:=(.cons (.ret (.H2 (.call 21 (.ref 415) (.cons (.loc 0) .nil)) "built" .nil)) .nil)
def SY:V0:=(.cons (.asg 3 (.call 2 (.type "list") (.cons (.loc 2) .nil))) (.cons (.asg 4 (.bin .Mult (.list (.cons (.int 0) .nil)) (.loc 0))) (.cons (.asg 5 (.bin .Add (.loc 0) (.int 1))) (.cons (.asg 6 (.list .nil)) (.cons (.R6 7 (.call 10 (.type "range") (.cons (.loc 0) .nil)) (.cons (.ite (.cmp .NotEq (.sub (.loc 4) (.loc 7)) (.int 0)) (.cons .cont .nil) .nil) (.cons (.expr (.H2 (.loc 6) "append" (.cons (.loc 7) .nil))) (.cons (.aM (.loc 4) (.loc 7) (.call 1 (.builtin "len") (.cons (.loc 6) .nil))) (.cons (.asg 8 (.list (.cons (.list (.cons (.loc 7) (.cons (.call 1 (.builtin "len") (.cons (.loc 6) .nil)) (.cons (.int 0) .nil)))) .nil))) (.cons (.IA (.loc 8) (.cons (.asg 9 (.sub (.loc 8) (.neg (.int 1)))) (.cons (.asg 10 (.sub (.loc 9) (.int 0))) (.cons (.ite (.cmp .Lt (.sub (.loc 9) (.int 2)) (.call 1 (.builtin "len") (.cons (.sub (.loc 1) (.loc 10)) .nil))) (.cons (.asg 11 (.sub (.sub (.loc 1) (.loc 10)) (.sub (.loc 9) (.int 2)))) (.cons (.ite (.cmp .Eq (.sub (.loc 4) (.loc 11)) (.int 0)) (.cons (.expr (.H2 (.loc 6) "append" (.cons (.loc 11) .nil))) (.cons (.aM (.loc 4) (.loc 11) (.call 1 (.builtin "len") (.cons (.loc 6) .nil))) (.cons (.expr (.H2 (.loc 8) "append" (.cons (.list (.cons (.loc 11) (.cons (.call 1 (.builtin "len") (.cons (.loc 6) .nil)) (.cons (.int 0) .nil)))) .nil))) (.cons .cont .nil)))) .nil) (.cons (.aM (.loc 9) (.int 2) (.bin .Add (.sub (.loc 9) (.int 2)) (.int 1))) (.cons (.ite (.cmp .Lt (.sub (.loc 4) (.loc 11)) (.sub (.loc 4) (.loc 10))) (.cons (.aM (.loc 4) (.loc 10) (.sub (.loc 4) (.loc 11))) .nil) .nil) (.cons (.aM (.loc 3) (.loc 10) (.bin .BitOr (.sub (.loc 3) (.loc 10)) (.sub (.loc 3) (.loc 11)))) (.cons .cont .nil)))))) .nil) (.cons (.expr (.H2 (.loc 8) "pop" .nil)) (.cons (.ite (.cmp .Eq (.sub (.loc 4) (.loc 10)) (.sub (.loc 9) (.int 1))) (.cons (.asg 12 (.neg (.int 1))) (.cons (.IA (.cmp .NotEq (.loc 12) (.loc 10)) (.cons (.asg 12 (.H2 (.loc 6) "pop" .nil)) (.cons (.aM (.loc 4) (.loc 12) (.loc 5)) (.cons (.aM (.loc 3) (.loc 12) (.sub (.loc 3) (.loc 10))) .nil)))) .nil)) .nil) .nil)))))) .nil)))))) (.cons (.ret (.loc 3)) .nil))))))
def tO:V0:=(.cons (.Q1 (.loc 0) "automaton" (.loc 1)) (.cons (.Q1 (.loc 0) "nullables" (.call 23 (.ref 216) (.cons (.attr (.loc 1) "grammar") .nil))) (.cons (.Q1 (.loc 0) "transitions" (.list .nil)) (.cons (.Q1 (.loc 0) "index" .dO) (.cons (.expr (.H2 (.loc 0) "number_transitions" .nil)) (.cons (.Q1 (.loc 0) "direct" (.list .nil)) (.cons (.Q1 (.loc 0) "reads" (.list .nil)) (.cons (.expr (.H2 (.loc 0) "find_reads" .nil)) (.cons (.Q1 (.loc 0) "includes" (.comp (.list .nil) 0 (.attr (.loc 0) "transitions") (.bool true))) (.cons (.Q1 (.loc 0) "turns" (.comp (.list .nil) 0 (.attr (.loc 0) "transitions") (.bool true))) (.cons (.Q1 (.loc 0) "lookback" .dO) (.cons (.expr (.H2 (.loc 0) "find_includes" .nil)) (.cons (.asg 2 (.call 1 (.builtin "len") (.cons (.attr (.loc 0) "transitions") .nil))) (.cons (.Q1 (.loc 0) "read_masks" (.call 22 (.ref 433) (.cons (.loc 2) (.cons (.attr (.loc 0) "reads") (.cons (.attr (.loc 0) "direct") .nil))))) (.cons (.Q1 (.loc 0) "follow_masks" (.call 22 (.ref 433) (.cons (.loc 2) (.cons (.attr (.loc 0) "includes") (.cons (.attr (.loc 0) "read_masks") .nil))))) (.cons (.Q1 (.loc 0) "masks" (.H2 (.loc 0) "joined_masks" .nil)) .nil))))))))))))))))
def eS:V0:=(.cons (.asg 1 (.attr (.attr (.loc 0) "automaton") "grammar")) (.cons (.R6 2 (.attr (.attr (.loc 0) "automaton") "states") (.cons (.R6 3 (.call 13 (.builtin "sorted") (.cons (.attr (.loc 2) "moves") .nil)) (.cons (.ite (.not (.H2 (.loc 1) "is_terminal" (.cons (.loc 3) .nil))) (.cons (.aM (.attr (.loc 0) "index") (.tup (.cons (.attr (.loc 2) "number") (.cons (.loc 3) .nil))) (.call 1 (.builtin "len") (.cons (.attr (.loc 0) "transitions") .nil))) (.cons (.expr (.H2 (.attr (.loc 0) "transitions") "append" (.cons (.tup (.cons (.attr (.loc 2) "number") (.cons (.loc 3) .nil))) .nil))) .nil)) .nil) .nil)) .nil)) .nil))
def lB:V0:=(.cons (.asg 1 (.attr (.attr (.loc 0) "automaton") "grammar")) (.cons (.rS [2,3] (.attr (.loc 0) "transitions") (.cons (.asg 4 (.H2 (.attr (.loc 0) "automaton") "goto" (.cons (.loc 2) (.cons (.loc 3) .nil)))) (.cons (.asg 5 (.int 0)) (.cons (.asg 6 (.list .nil)) (.cons (.asg 7 (.attr (.sub (.attr (.attr (.loc 0) "automaton") "states") (.loc 4)) "moves")) (.cons (.R6 8 (.call 13 (.builtin "sorted") (.cons (.loc 7) .nil)) (.cons (.ite (.H2 (.loc 1) "is_terminal" (.cons (.loc 8) .nil)) (.cons (.asg 5 (.bin .BitOr (.loc 5) (.bin .LShift (.int 1) (.loc 8)))) .nil) (.cons (.ite (.sub (.attr (.loc 0) "nullables") (.loc 8)) (.cons (.expr (.H2 (.loc 6) "append" (.cons (.sub (.attr (.loc 0) "index") (.tup (.cons (.loc 4) (.cons (.loc 8) .nil)))) .nil))) .nil) .nil) .nil)) .nil)) (.cons (.expr (.H2 (.attr (.loc 0) "direct") "append" (.cons (.loc 5) .nil))) (.cons (.expr (.H2 (.attr (.loc 0) "reads") "append" (.cons (.loc 6) .nil))) .nil)))))))) .nil))
def iH:V0:=(.cons (.asg 1 (.attr (.attr (.loc 0) "automaton") "grammar")) (.cons (.R6 2 (.attr (.attr (.loc 0) "automaton") "states") (.cons (.R6 3 (.attr (.loc 2) "reductions") (.cons (.aM (.attr (.loc 0) "lookback") (.tup (.cons (.attr (.loc 2) "number") (.cons (.loc 3) .nil))) (.list .nil)) .nil)) .nil)) (.cons (.R6 4 (.call 10 (.type "range") (.cons (.call 1 (.builtin "len") (.cons (.attr (.loc 0) "transitions") .nil)) .nil)) (.cons (.pJ [5,6] (.sub (.attr (.loc 0) "transitions") (.loc 4))) (.cons (.R6 3 (.H2 (.loc 1) "rules_of" (.cons (.loc 6) .nil)) (.cons (.asg 7 (.attr (.sub (.attr (.loc 1) "rules") (.loc 3)) "right")) (.cons (.asg 8 (.H2 (.loc 0) "open_ends" (.cons (.loc 7) .nil))) (.cons (.asg 9 (.loc 5)) (.cons (.R6 10 (.call 10 (.type "range") (.cons (.call 1 (.builtin "len") (.cons (.loc 7) .nil)) .nil)) (.cons (.asg 11 (.sub (.loc 7) (.loc 10))) (.cons (.ite (.and (.cmp .GtE (.loc 10) (.loc 8)) (.not (.H2 (.loc 1) "is_terminal" (.cons (.loc 11) .nil)))) (.cons (.asg 12 (.sub (.attr (.loc 0) "index") (.tup (.cons (.loc 9) (.cons (.loc 11) .nil))))) (.cons (.expr (.call 24 (.ref 501) (.cons (.sub (.attr (.loc 0) "includes") (.loc 12)) (.cons (.loc 4) .nil)))) (.cons (.ite (.cmp .Eq (.loc 10) (.int 0)) (.cons (.expr (.call 24 (.ref 501) (.cons (.sub (.attr (.loc 0) "turns") (.loc 12)) (.cons (.loc 4) .nil)))) .nil) .nil) .nil))) .nil) (.cons (.asg 9 (.H2 (.attr (.loc 0) "automaton") "goto" (.cons (.loc 9) (.cons (.loc 11) .nil)))) .nil)))) (.cons (.expr (.call 24 (.ref 501) (.cons (.sub (.attr (.loc 0) "lookback") (.tup (.cons (.loc 9) (.cons (.loc 3) .nil)))) (.cons (.loc 4) .nil)))) .nil)))))) .nil))) .nil)))
def lU:V0:=(.cons (.asg 2 (.call 1 (.builtin "len") (.cons (.loc 1) .nil))) (.cons (.IA (.and (.cmp .Gt (.loc 2) (.int 0)) (.sub (.attr (.loc 0) "nullables") (.sub (.loc 1) (.bin .Sub (.loc 2) (.int 1))))) (.cons (.asg 2 (.bin .Sub (.loc 2) (.int 1))) .nil)) (.cons (.ret (.call 25 (.builtin "max") (.cons (.bin .Sub (.loc 2) (.int 1)) (.cons (.int 0) .nil)))) .nil)))
def iX:V0:=(.cons (.asg 1 .dO) (.cons (.R6 2 (.attr (.loc 0) "lookback") (.cons (.asg 3 (.int 0)) (.cons (.R6 4 (.sub (.attr (.loc 0) "lookback") (.loc 2)) (.cons (.asg 3 (.bin .BitOr (.loc 3) (.sub (.attr (.loc 0) "follow_masks") (.loc 4)))) .nil)) (.cons (.aM (.loc 1) (.loc 2) (.loc 3)) .nil)))) (.cons (.ret (.loc 1)) .nil)))
def MR:V0:=(.cons (.ite (.cmp .NotIn (.loc 1) (.loc 0)) (.cons (.expr (.H2 (.loc 0) "append" (.cons (.loc 1) .nil))) .nil) .nil) .nil)
def GO:V0:=(.cons (.ret (.attr (.call 26 (.ref 490) (.cons (.loc 0) .nil)) "masks")) .nil)
def CY:V0:=(.cons (.Q1 (.loc 0) "names" (.loc 1)) (.cons (.Q1 (.loc 0) "terminal_count" (.loc 2)) (.cons (.Q1 (.loc 0) "lefts" (.loc 3)) (.cons (.Q1 (.loc 0) "lengths" (.loc 4)) (.cons (.Q1 (.loc 0) "befores" (.loc 5)) (.cons (.Q1 (.loc 0) "defaults" (.list .nil)) (.cons (.Q1 (.loc 0) "numbers" .dO) (.cons (.R6 6 (.call 10 (.type "range") (.cons (.loc 2) .nil)) (.cons (.aM (.attr (.loc 0) "numbers") (.sub (.loc 1) (.loc 6)) (.loc 6)) .nil)) .nil))))))))
def vG:V0:=(.cons (.ret (.sub (.attr (.loc 0) "defaults") (.loc 1))) .nil)
def CV:V0:=(.cons (.ite (.cmp .Eq (.loc 1) (.gi 29 (1048576))) (.cons (.ret (.str "accept")) .nil) .nil) (.cons (.ite (.cmp .Eq (.loc 1) (.gi 28 (-1048576))) (.cons (.ret (.str "error (nonassociative)")) .nil) .nil) (.cons (.ite (.cmp .Gt (.loc 1) (.int 0)) (.cons (.ret (.bin .Add (.str "shift, and go to state ") (.call 27 (.type "str") (.cons (.loc 1) .nil)))) .nil) .nil) (.cons (.ite (.cmp .Lt (.loc 1) (.int 0)) (.cons (.ret (.bin .Add (.bin .Add (.bin .Add (.bin .Add (.str "reduce using rule ") (.call 27 (.type "str") (.cons (.neg (.loc 1)) .nil))) (.str " (")) (.sub (.attr (.loc 0) "names") (.sub (.attr (.loc 0) "lefts") (.neg (.loc 1))))) (.str ")"))) .nil) .nil) (.cons (.ret (.str "error")) .nil)))))
def xX:V0:=(.cons (.Q1 (.loc 0) "state" (.loc 1)) (.cons (.Q1 (.loc 0) "terminal" (.loc 2)) (.cons (.Q1 (.loc 0) "way" (.loc 3)) (.cons (.Q1 (.loc 0) "rules" (.loc 4)) (.cons (.Q1 (.loc 0) "chosen" (.loc 5)) .nil)))))
def aV:KO:=⟨(.asg 8 (.comp (.attr (.loc 11) "left") 0 (.attr (.loc 1) "rules") (.bool true))),(.asg 9 (.comp (.call 1 (.builtin "len") (.cons (.attr (.loc 11) "right") .nil)) 0 (.attr (.loc 1) "rules") (.bool true))),(.asg 10 (.comp (.attr (.loc 11) "before") 0 (.attr (.loc 1) "rules") (.bool true))),(.cons (.attr (.loc 1) "names") (.cons (.attr (.loc 1) "terminal_count") (.cons (.loc 8) (.cons (.loc 9) (.cons (.loc 10) .nil))))),(.cons (.Q1 (.loc 0) "grammar" (.loc 1)) (.cons (.Q1 (.loc 0) "rows" (.loc 2)) (.cons (.Q1 (.loc 0) "gotos" (.loc 3)) (.cons (.Q1 (.loc 0) "defaults" (.loc 4)) (.cons (.Q1 (.loc 0) "conflicts" (.loc 5)) (.cons (.Q1 (.loc 0) "settled" (.loc 6)) (.cons (.Q1 (.loc 0) "mode" (.loc 7)) .nil)))))))⟩
def iW:V0:=(.cons (.ret (.call 1 (.builtin "len") (.cons (.attr (.loc 0) "rows") .nil))) .nil)
def lT:V0:=(.cons (.ret (.sub (.sub (.attr (.loc 0) "rows") (.loc 1)) (.loc 2))) .nil)
def rI:V0:=(.cons (.ret (.H2 (.sub (.attr (.loc 0) "gotos") (.loc 1)) "get" (.cons (.loc 2) (.cons (.neg (.int 1)) .nil)))) .nil)
def WO:V0:=(.cons (.asg 3 (.H2 (.attr (.loc 0) "levels") "get" (.cons (.attr (.sub (.attr (.loc 0) "rules") (.loc 1)) "level_of") .nil))) (.cons (.asg 4 (.H2 (.attr (.loc 0) "levels") "get" (.cons (.loc 2) .nil))) (.cons (.ite (.or (.cmp .Is (.loc 3) .none) (.cmp .Is (.loc 4) .none)) (.cons (.ret .none) .nil) .nil) (.cons (.ite (.cmp .Gt (.sub (.loc 3) (.int 0)) (.sub (.loc 4) (.int 0))) (.cons (.ret (.str "reduce")) .nil) .nil) (.cons (.ite (.cmp .Lt (.sub (.loc 3) (.int 0)) (.sub (.loc 4) (.int 0))) (.cons (.ret (.str "shift")) .nil) .nil) (.cons (.ite (.cmp .Eq (.sub (.loc 4) (.int 1)) (.str "left")) (.cons (.ret (.str "reduce")) .nil) .nil) (.cons (.ite (.cmp .Eq (.sub (.loc 4) (.int 1)) (.str "right")) (.cons (.ret (.str "shift")) .nil) .nil) (.cons (.ite (.cmp .Eq (.sub (.loc 4) (.int 1)) (.str "nonassoc")) (.cons (.ret (.str "bar")) .nil) .nil) (.cons (.ret .none) .nil)))))))))
def xV:V0:=(.cons (.Q1 (.loc 0) "grammar" (.loc 1)) (.cons (.Q1 (.loc 0) "number" (.attr (.loc 2) "number")) (.cons (.Q1 (.loc 0) "shifts" .dO) (.cons (.Q1 (.loc 0) "gotos" .dO) (.cons (.R6 4 (.attr (.loc 2) "moves") (.cons (.ite (.cmp .Eq (.loc 4) (.gi 30 (0))) (.cons (.aM (.attr (.loc 0) "shifts") (.loc 4) (.gi 29 (1048576))) .nil) (.cons (.ite (.cmp .Lt (.loc 4) (.attr (.loc 1) "terminal_count")) (.cons (.aM (.attr (.loc 0) "shifts") (.loc 4) (.sub (.attr (.loc 2) "moves") (.loc 4))) .nil) (.cons (.aM (.attr (.loc 0) "gotos") (.loc 4) (.sub (.attr (.loc 2) "moves") (.loc 4))) .nil)) .nil)) .nil)) (.cons (.Q1 (.loc 0) "looks" (.list .nil)) (.cons (.R6 5 (.attr (.loc 2) "reductions") (.cons (.expr (.H2 (.attr (.loc 0) "looks") "append" (.cons (.list (.cons (.loc 5) (.cons (.H2 (.loc 3) "get" (.cons (.tup (.cons (.attr (.loc 2) "number") (.cons (.loc 5) .nil))) (.cons (.int 0) .nil))) .nil))) .nil))) .nil)) (.cons (.Q1 (.loc 0) "barred" (.int 0)) (.cons (.Q1 (.loc 0) "settled" (.list .nil)) .nil)))))))))
def jQ:V0:=(.cons (.R6 1 (.attr (.loc 0) "looks") (.cons (.R6 2 (.call 14 (.ref 80) (.cons (.sub (.loc 1) (.int 1)) .nil)) (.cons (.asg 3 .none) (.cons (.ite (.cmp .In (.loc 2) (.attr (.loc 0) "shifts")) (.cons (.asg 3 (.call 31 (.ref 688) (.cons (.attr (.loc 0) "grammar") (.cons (.sub (.loc 1) (.int 0)) (.cons (.loc 2) .nil))))) .nil) .nil) (.cons (.ite (.cmp .IsNot (.loc 3) .none) (.cons (.expr (.H2 (.loc 0) "settle_one" (.cons (.loc 1) (.cons (.loc 2) (.cons (.loc 3) .nil))))) .nil) .nil) .nil)))) .nil)) .nil)
def AG:V0:=(.cons (.asg 1 (.bin .Mult (.list (.cons (.int 0) .nil)) (.attr (.attr (.loc 0) "grammar") "terminal_count"))) (.cons (.forR 2 (.attr (.loc 0) "looks") (.cons (.R6 3 (.call 14 (.ref 80) (.cons (.sub (.loc 2) (.int 1)) .nil)) (.cons (.aM (.loc 1) (.loc 3) (.neg (.sub (.loc 2) (.int 0)))) .nil)) .nil)) (.cons (.R6 3 (.attr (.loc 0) "shifts") (.cons (.aM (.loc 1) (.loc 3) (.sub (.attr (.loc 0) "shifts") (.loc 3))) .nil)) (.cons (.R6 3 (.call 14 (.ref 80) (.cons (.attr (.loc 0) "barred") .nil)) (.cons (.aM (.loc 1) (.loc 3) (.gi 28 (-1048576))) .nil)) (.cons (.ret (.loc 1)) .nil)))))
def oV:V0:=(.cons (.asg 2 (.list .nil)) (.cons (.R6 3 (.call 10 (.type "range") (.cons (.attr (.attr (.loc 0) "grammar") "terminal_count") .nil)) (.cons (.asg 4 (.comp (.sub (.loc 7) (.int 0)) 0 (.attr (.loc 0) "looks") (.bin .BitAnd (.sub (.loc 7) (.int 1)) (.bin .LShift (.int 1) (.loc 3))))) (.cons (.ite (.and (.loc 4) (.cmp .In (.loc 3) (.attr (.loc 0) "shifts"))) (.cons (.expr (.H2 (.loc 2) "append" (.cons (.call 32 (.ref 637) (.cons (.attr (.loc 0) "number") (.cons (.loc 3) (.cons (.str "shift/reduce") (.cons (.call 6 (.type "tuple") (.cons (.loc 4) .nil)) (.cons (.sub (.loc 1) (.loc 3)) .nil)))))) .nil))) .nil) .nil) (.cons (.R6 5 (.wP (.loc 4) (.int 1) .absent) (.cons (.asg 6 (.tup (.cons (.sub (.loc 4) (.int 0)) (.cons (.loc 5) .nil)))) (.cons (.expr (.H2 (.loc 2) "append" (.cons (.call 32 (.ref 637) (.cons (.attr (.loc 0) "number") (.cons (.loc 3) (.cons (.str "reduce/reduce") (.cons (.loc 6) (.cons (.sub (.loc 1) (.loc 3)) .nil)))))) .nil))) .nil))) .nil)))) (.cons (.ret (.loc 2)) .nil)))
def GP:V0:=(.cons (.ite (.cmp .Gt (.sub (.loc 0) (.gi 33 (1))) (.int 0)) (.cons (.ret (.int 0)) .nil) .nil) (.cons (.asg 1 .dO) (.cons (.R6 2 (.loc 0) (.cons (.ite (.KE .Lt .Lt (.gi 28 (-1048576)) (.loc 2) (.int 0)) (.cons (.aM (.loc 1) (.neg (.loc 2)) (.bin .Add (.H2 (.loc 1) "get" (.cons (.neg (.loc 2)) (.cons (.int 0) .nil))) (.int 1))) .nil) .nil) .nil)) (.cons (.asg 3 (.int 0)) (.cons (.R6 4 (.call 13 (.builtin "sorted") (.cons (.loc 1) .nil)) (.cons (.ite (.or (.cmp .Eq (.loc 3) (.int 0)) (.cmp .Gt (.sub (.loc 1) (.loc 4)) (.sub (.loc 1) (.loc 3)))) (.cons (.asg 3 (.loc 4)) .nil) .nil) .nil)) (.cons (.ret (.loc 3)) .nil))))))
def SV:V0:=(.cons (.ret (.comp (.ite (.cmp .Eq (.loc 2) (.neg (.loc 1))) (.int 0) (.loc 2)) 0 (.loc 0) (.bool true))) .nil)
def Ka:V0:=(.cons (.asg 4 (.list .nil)) (.cons (.asg 5 (.list .nil)) (.cons (.asg 6 (.list .nil)) (.cons (.asg 7 (.list .nil)) (.cons (.asg 8 (.list .nil)) (.cons (.R6 9 (.attr (.loc 0) "states") (.cons (.asg 10 (.call 37 (.ref 731) (.cons (.attr (.loc 0) "grammar") (.cons (.loc 9) (.cons (.loc 1) .nil))))) (.cons (.expr (.H2 (.loc 10) "settle_levels" .nil)) (.cons (.asg 11 (.H2 (.loc 10) "row" .nil)) (.cons (.expr (.H2 (.loc 7) "extend" (.cons (.H2 (.loc 10) "conflicts" (.cons (.loc 11) .nil)) .nil))) (.cons (.expr (.H2 (.loc 8) "extend" (.cons (.attr (.loc 10) "settled") .nil))) (.cons (.asg 12 (.int 0)) (.cons (.ite (.loc 2) (.cons (.asg 12 (.call 36 (.ref 742) (.cons (.loc 11) .nil))) .nil) .nil) (.cons (.ite (.cmp .NotEq (.loc 12) (.int 0)) (.cons (.asg 11 (.call 35 (.ref 747) (.cons (.loc 11) (.cons (.loc 12) .nil)))) .nil) .nil) (.cons (.expr (.H2 (.loc 4) "append" (.cons (.loc 11) .nil))) (.cons (.expr (.H2 (.loc 5) "append" (.cons (.attr (.loc 10) "gotos") .nil))) (.cons (.expr (.H2 (.loc 6) "append" (.cons (.loc 12) .nil))) .nil)))))))))))) (.cons (.ret (.call 34 (.ref 679) (.cons (.attr (.loc 0) "grammar") (.cons (.loc 4) (.cons (.loc 5) (.cons (.loc 6) (.cons (.loc 7) (.cons (.loc 8) (.cons (.loc 3) .nil))))))))) .nil)))))))
def CW:V0:=(.cons (.asg 2 (.call 41 (.ref 426) (.cons (.loc 0) .nil))) (.cons (.ret (.call 38 (.ref 777) (.cons (.call 39 (.ref 755) (.cons (.loc 2) (.cons (.call 40 (.ref 508) (.cons (.loc 2) .nil)) (.cons (.loc 1) (.cons (.str "lalr") .nil))))) .nil))) .nil))
def SZ:V0:=(.cons (.asg 1 (.attr (.attr (.loc 0) "grammar") "expect")) (.cons (.ite (.cmp .IsNot (.loc 1) .none) (.cons (.pJ [2,3] (.call 42 (.ref 770) (.cons (.loc 0) .nil))) (.cons (.ite (.cmp .Gt (.loc 3) (.int 0)) (.cons .any .nil) .nil) (.cons (.ite (.cmp .NotEq (.loc 2) (.loc 1)) (.cons .any .nil) .nil) .nil))) .nil) (.cons (.ret (.loc 0)) .nil)))
def JJ:V0:=(.cons (.Q1 (.loc 0) "grammar" (.loc 1)) (.cons (.Q1 (.loc 0) "automaton" (.loc 2)) (.cons (.Q1 (.loc 0) "cores" (.loc 3)) (.cons (.Q1 (.loc 0) "masks" (.loc 4)) .nil))))
def xU:V0:=(.cons (.asg 2 (.call 2 (.type "list") (.cons (.sub (.attr (.loc 0) "cores") (.loc 1)) .nil))) (.cons (.ret (.bin .Add (.loc 2) (.call 13 (.builtin "sorted") (.cons (.comp (.loc 3) 0 (.attr (.sub (.attr (.attr (.loc 0) "automaton") "states") (.loc 1)) "items") (.cmp .NotIn (.loc 3) (.loc 2))) .nil)))) .nil))
def vF:V0:=(.cons (.asg 3 (.attr (.loc 0) "grammar")) (.cons (.asg 4 (.H2 (.loc 3) "rule_of" (.cons (.loc 2) .nil))) (.cons (.asg 5 (.bin .Add (.bin .Add (.call 27 (.type "str") (.cons (.loc 4) .nil)) (.str " ")) (.call 43 (.ref 191) (.cons (.loc 3) (.cons (.loc 4) (.cons (.H2 (.loc 3) "dot_of" (.cons (.loc 2) .nil)) .nil)))))) (.cons (.ite (.or (.cmp .Eq (.loc 4) (.int 0)) (.cmp .GtE (.H2 (.loc 3) "after" (.cons (.loc 2) .nil)) (.int 0))) (.cons (.ret (.loc 5)) .nil) .nil) (.cons (.asg 6 (.comp (.sub (.attr (.loc 3) "names") (.loc 7)) 0 (.call 14 (.ref 80) (.cons (.sub (.attr (.loc 0) "masks") (.tup (.cons (.loc 1) (.cons (.loc 4) .nil)))) .nil)) (.bool true))) (.cons (.ret (.bin .Add (.bin .Add (.bin .Add (.loc 5) (.str "  [")) (.H2 (.str ", ") "join" (.cons (.loc 6) .nil))) (.str "]"))) .nil))))))
def JI:V0:=(.cons (.asg 1 (.call 41 (.ref 426) (.cons (.loc 0) .nil))) (.cons (.ret (.call 44 (.ref 811) (.cons (.loc 0) (.cons (.loc 1) (.cons (.comp (.attr (.loc 2) "kernel") 0 (.attr (.loc 1) "states") (.bool true)) (.cons (.call 40 (.ref 508) (.cons (.loc 1) .nil)) .nil)))))) .nil))
def CX:V0:=(.cons (.asg 2 (.list .nil)) (.cons (.asg 3 (.list .nil)) (.cons (.asg 4 (.list .nil)) (.cons (.R6 5 (.call 10 (.type "range") (.cons (.attr (.loc 0) "terminal_count") .nil)) (.cons (.asg 6 (.H2 (.loc 0) "explicit" (.cons (.loc 1) (.cons (.loc 5) .nil)))) (.cons (.asg 7 (.tup (.cons (.sub (.attr (.loc 0) "names") (.loc 5)) (.cons (.call 45 (.ref 613) (.cons (.loc 0) (.cons (.loc 6) .nil))) .nil)))) (.cons (.ite (.cmp .Eq (.loc 6) (.gi 28 (-1048576))) (.cons (.expr (.H2 (.loc 3) "append" (.cons (.loc 7) .nil))) .nil) (.cons (.ite (.cmp .Gt (.loc 6) (.int 0)) (.cons (.expr (.H2 (.loc 2) "append" (.cons (.loc 7) .nil))) .nil) (.cons (.ite (.cmp .Lt (.loc 6) (.int 0)) (.cons (.expr (.H2 (.loc 4) "append" (.cons (.loc 7) .nil))) .nil) .nil) .nil)) .nil)) (.cons (.R6 8 (.call 46 (.ref 834) (.cons (.loc 0) (.cons (.loc 1) (.cons (.loc 5) .nil)))) (.cons (.expr (.H2 (.loc 4) "append" (.cons (.tup (.cons (.sub (.attr (.loc 0) "names") (.loc 5)) (.cons (.bin .Add (.bin .Add (.str "[") (.call 45 (.ref 613) (.cons (.loc 0) (.cons (.neg (.loc 8)) .nil)))) (.str "]")) .nil))) .nil))) .nil)) .nil))))) (.cons (.ite (.cmp .NotEq (.H2 (.loc 0) "default" (.cons (.loc 1) .nil)) (.int 0)) (.cons (.expr (.H2 (.loc 4) "append" (.cons (.tup (.cons (.str "$default") (.cons (.call 45 (.ref 613) (.cons (.loc 0) (.cons (.neg (.H2 (.loc 0) "default" (.cons (.loc 1) .nil))) .nil))) .nil))) .nil))) .nil) .nil) (.cons (.ret (.bin .Add (.bin .Add (.loc 2) (.loc 3)) (.loc 4))) .nil))))))
def GN:V0:=(.cons (.asg 3 (.list .nil)) (.cons (.R6 4 (.attr (.loc 0) "conflicts") (.cons (.ite (.and (.cmp .Eq (.attr (.loc 4) "state") (.loc 1)) (.cmp .Eq (.attr (.loc 4) "terminal") (.loc 2))) (.cons (.R6 5 (.attr (.loc 4) "rules") (.cons (.ite (.and (.cmp .NotEq (.attr (.loc 4) "chosen") (.neg (.loc 5))) (.cmp .NotIn (.loc 5) (.loc 3))) (.cons (.expr (.H2 (.loc 3) "append" (.cons (.loc 5) .nil))) .nil) .nil) .nil)) .nil) .nil) .nil)) (.cons (.ret (.call 13 (.builtin "sorted") (.cons (.loc 3) .nil))) .nil)))
def JD:V0:=(.cons (.asg 1 (.int 0)) (.cons (.rS [2,3] (.loc 0) (.cons (.asg 1 (.call 25 (.builtin "max") (.cons (.loc 1) (.cons (.call 1 (.builtin "len") (.cons (.loc 2) .nil)) .nil)))) .nil)) (.cons (.ret (.comp (.bin .Add (.bin .Add (.bin .Add (.str "    ") (.H2 (.loc 4) "ljust" (.cons (.loc 1) .nil))) (.str "  ")) (.loc 5)) 2 (.loc 0) (.bool true))) .nil)))
def AE:V0:=(.cons (.asg 2 (.list .nil)) (.cons (.R6 3 (.attr (.loc 0) "settled") (.cons (.ite (.cmp .NotEq (.attr (.loc 3) "state") (.loc 1)) (.cons .cont .nil) .nil) (.cons (.asg 4 (.str "shift")) (.cons (.ite (.cmp .Eq (.attr (.loc 3) "chosen") (.gi 28 (-1048576))) (.cons (.asg 4 (.str "an error")) .nil) (.cons (.ite (.cmp .Lt (.attr (.loc 3) "chosen") (.int 0)) (.cons (.asg 4 (.str "reduce")) .nil) .nil) .nil)) (.cons (.asg 5 (.bin .Add (.bin .Add (.str "    Conflict between rule ") (.call 27 (.type "str") (.cons (.sub (.attr (.loc 3) "rules") (.int 0)) .nil))) (.str " and token "))) (.cons (.expr (.H2 (.loc 2) "append" (.cons (.bin .Add (.bin .Add (.bin .Add (.bin .Add (.loc 5) (.sub (.attr (.loc 0) "names") (.attr (.loc 3) "terminal"))) (.str " resolved as ")) (.loc 4)) (.str ".")) .nil))) .nil)))))) (.cons (.ret (.loc 2)) .nil)))
def GL:V0:=(.cons (.asg 3 (.list (.cons (.bin .Add (.str "State ") (.call 27 (.type "str") (.cons (.loc 2) .nil))) (.cons (.str "") .nil)))) (.cons (.R6 4 (.H2 (.loc 0) "items_of" (.cons (.loc 2) .nil)) (.cons (.expr (.H2 (.loc 3) "append" (.cons (.bin .Add (.str "    ") (.H2 (.loc 0) "show_item" (.cons (.loc 2) (.cons (.loc 4) .nil)))) .nil))) .nil)) (.cons (.asg 5 (.list .nil)) (.cons (.R6 6 (.call 10 (.type "range") (.cons (.attr (.loc 1) "terminal_count") (.cons (.call 1 (.builtin "len") (.cons (.attr (.loc 1) "names") .nil)) .nil))) (.cons (.asg 7 (.H2 (.loc 1) "goto" (.cons (.loc 2) (.cons (.loc 6) .nil)))) (.cons (.ite (.cmp .GtE (.loc 7) (.int 0)) (.cons (.expr (.H2 (.loc 5) "append" (.cons (.tup (.cons (.sub (.attr (.loc 1) "names") (.loc 6)) (.cons (.bin .Add (.str "go to state ") (.call 27 (.type "str") (.cons (.loc 7) .nil))) .nil))) .nil))) .nil) .nil) .nil))) (.cons (.R6 8 (.tup (.cons (.call 48 (.ref 839) (.cons (.call 49 (.ref 827) (.cons (.loc 1) (.cons (.loc 2) .nil))) .nil)) (.cons (.call 48 (.ref 839) (.cons (.loc 5) .nil)) (.cons (.call 47 (.ref 846) (.cons (.loc 1) (.cons (.loc 2) .nil))) .nil)))) (.cons (.ite (.cmp .NotEq (.loc 8) (.list .nil)) (.cons (.asg 3 (.bin .Add (.bin .Add (.loc 3) (.list (.cons (.str "") .nil))) (.loc 8))) .nil) .nil) .nil)) (.cons (.ret (.bin .Add (.loc 3) (.list (.cons (.str "") .nil)))) .nil))))))
def SW:V0:=(.cons (.asg 1 (.int 0)) (.cons (.R6 2 (.wP (.loc 0) .absent (.int 24)) (.cons (.asg 1 (.bin .Add (.bin .Add (.bin .Add (.bin .Mult (.loc 1) (.int 1000003)) (.bin .Mult (.int 2) (.call 50 (.builtin "abs") (.cons (.loc 2) .nil)))) (.ite (.cmp .Lt (.loc 2) (.int 0)) (.int 1) (.int 0))) (.int 1))) .nil)) (.cons (.ret (.list (.cons (.loc 1) (.cons (.int 0) .nil)))) .nil)))
def MP:V0:=(.cons (.aM (.loc 0) (.int 1) (.bin .Add (.sub (.loc 0) (.int 1)) (.int 1))) (.cons (.ite (.cmp .Gt (.sub (.loc 0) (.int 0)) (.int 0)) (.cons (.asg 2 (.bin .Mod (.sub (.loc 0) (.int 0)) (.loc 1))) (.cons (.aM (.loc 0) (.int 0) (.bin .FloorDiv (.sub (.loc 0) (.int 0)) (.loc 1))) (.cons (.ret (.loc 2)) .nil))) .nil) (.cons (.ret (.bin .Mod (.bin .Add (.bin .Mult (.sub (.loc 0) (.int 1)) (.sub (.loc 0) (.int 1))) (.int 1)) (.loc 1))) .nil)))
def JE:V0:=(.cons (.ret (.comp (.sub (.tup (.cons (.str "a") (.cons (.str "b") (.cons (.str "s") (.cons (.str "t") (.cons (.str "s") (.cons (.str "a") .nil))))))) (.call 51 (.ref 867) (.cons (.loc 0) (.cons (.int 6) .nil)))) 0 (.call 10 (.type "range") (.cons (.loc 1) .nil)) (.bool true))) .nil)
def JG:V0:=(.cons (.asg 1 (.call 51 (.ref 867) (.cons (.loc 0) (.cons (.int 2) .nil)))) (.cons (.asg 2 (.list (.cons (.tup (.cons (.str "s") (.cons (.call 52 (.ref 872) (.cons (.loc 0) (.cons (.bin .Add (.int 1) (.call 51 (.ref 867) (.cons (.loc 0) (.cons (.int 3) .nil)))) .nil))) .nil))) .nil))) (.cons (.expr (.H2 (.loc 2) "append" (.cons (.tup (.cons (.str "s") (.cons (.list (.cons (.sub (.tup (.cons (.str "a") (.cons (.str "b") .nil))) (.call 51 (.ref 867) (.cons (.loc 0) (.cons (.int 2) .nil)))) .nil)) .nil))) .nil))) (.cons (.expr (.H2 (.loc 2) "append" (.cons (.tup (.cons (.str "t") (.cons (.sub (.list (.cons (.list .nil) (.cons (.list (.cons (.str "a") .nil)) .nil))) (.call 51 (.ref 867) (.cons (.loc 0) (.cons (.int 2) .nil)))) .nil))) .nil))) (.cons (.R6 3 (.call 10 (.type "range") (.cons (.loc 1) .nil)) (.cons (.asg 4 (.sub (.tup (.cons (.str "s") (.cons (.str "t") .nil))) (.call 51 (.ref 867) (.cons (.loc 0) (.cons (.int 2) .nil))))) (.cons (.expr (.H2 (.loc 2) "append" (.cons (.tup (.cons (.loc 4) (.cons (.call 52 (.ref 872) (.cons (.loc 0) (.cons (.call 51 (.ref 867) (.cons (.loc 0) (.cons (.int 4) .nil))) .nil))) .nil))) .nil))) .nil))) (.cons (.ret (.loc 2)) .nil))))))
def JF:V0:=(.cons (.asg 1 (.list (.cons (.list .nil) .nil))) (.cons (.R6 2 (.loc 0) (.cons (.ite (.cmp .Eq (.loc 2) (.str "")) (.cons (.expr (.H2 (.loc 1) "append" (.cons (.list .nil) .nil))) .nil) (.cons (.expr (.H2 (.sub (.loc 1) (.neg (.int 1))) "append" (.cons (.H2 (.loc 2) "strip" .nil) .nil))) .nil)) .nil)) (.cons (.ret (.comp (.loc 3) 0 (.loc 1) (.cmp .NotEq (.loc 3) (.list .nil)))) .nil)))
def JH:V0:=(.cons (.asg 1 (.list .nil)) (.cons (.R6 2 (.loc 0) (.cons (.asg 3 (.H2 (.loc 2) "find" (.cons (.str "  ") .nil))) (.cons (.expr (.H2 (.loc 1) "append" (.cons (.tup (.cons (.wP (.loc 2) .absent (.loc 3)) (.cons (.H2 (.wP (.loc 2) (.loc 3) .absent) "strip" .nil) .nil))) .nil))) .nil))) (.cons (.ret (.loc 1)) .nil)))
def SX:V0:=(.cons (.ite (.cmp .Eq (.loc 0) (.str "accept")) (.cons (.ret (.gi 29 (1048576))) .nil) .nil) (.cons (.ite (.H2 (.loc 0) "startswith" (.cons (.str "shift, and go to state ") .nil)) (.cons (.ret (.call 53 (.type "int") (.cons (.wP (.loc 0) (.call 1 (.builtin "len") (.cons (.str "shift, and go to state ") .nil)) .absent) .nil))) .nil) .nil) (.cons (.ite (.H2 (.loc 0) "startswith" (.cons (.str "reduce using rule ") .nil)) (.cons (.ret (.bin .Sub (.int 0) (.call 53 (.type "int") (.cons (.sub (.H2 (.wP (.loc 0) (.call 1 (.builtin "len") (.cons (.str "reduce using rule ") .nil)) .absent) "split" (.cons (.str " ") .nil)) (.int 0)) .nil)))) .nil) .nil) (.cons (.ret .none) .nil))))
def xS:V0:=(.cons (.pJ [3,4] (.sub (.loc 0) (.loc 1))) (.cons (.ret (.H2 (.str " ") "join" (.cons (.bin .Add (.bin .Add (.bin .Add (.list (.cons (.call 27 (.type "str") (.cons (.loc 1) .nil)) (.cons (.loc 3) (.cons (.str ":") .nil)))) (.wP (.loc 4) .absent (.loc 2))) (.list (.cons (.str ".") .nil))) (.wP (.loc 4) (.loc 2) .absent)) .nil))) .nil))
def xR:V0:=(.cons (.asg 4 (.attr (.loc 0) "grammar")) (.cons (.asg 5 (.list .nil)) (.cons (.R6 6 (.attr (.sub (.attr (.attr (.loc 0) "automaton") "states") (.loc 2)) "items") (.cons (.pJ [7,8] (.tup (.cons (.H2 (.loc 4) "rule_of" (.cons (.loc 6) .nil)) (.cons (.H2 (.loc 4) "dot_of" (.cons (.loc 6) .nil)) .nil)))) (.cons (.asg 9 (.call 54 (.ref 905) (.cons (.loc 1) (.cons (.loc 7) (.cons (.loc 8) .nil))))) (.cons (.ite (.and (.cmp .Gt (.loc 7) (.int 0)) (.cmp .Eq (.loc 8) (.call 1 (.builtin "len") (.cons (.sub (.sub (.loc 1) (.loc 7)) (.int 1)) .nil)))) (.cons (.asg 10 (.sub (.attr (.loc 0) "masks") (.tup (.cons (.loc 2) (.cons (.loc 7) .nil))))) (.cons (.asg 11 (.comp (.sub (.attr (.loc 4) "names") (.loc 12)) 0 (.call 10 (.type "range") (.cons (.attr (.loc 4) "terminal_count") .nil)) (.cmp .Eq (.bin .Mod (.bin .FloorDiv (.loc 10) (.bin .LShift (.int 1) (.loc 12))) (.int 2)) (.int 1)))) (.cons (.asg 9 (.bin .Add (.bin .Add (.bin .Add (.loc 9) (.str "  [")) (.H2 (.str ", ") "join" (.cons (.loc 11) .nil))) (.str "]"))) .nil))) .nil) (.cons (.expr (.H2 (.loc 5) "append" (.cons (.loc 9) .nil))) .nil))))) (.cons (.ret (.cmp .Eq (.call 13 (.builtin "sorted") (.cons (.loc 3) .nil)) (.call 13 (.builtin "sorted") (.cons (.loc 5) .nil)))) .nil))))
def AF:V0:=(.cons (.asg 3 (.comp (.loc 13) 2 (.loc 2) (.bool true))) (.cons (.asg 4 (.comp (.tup (.cons (.loc 13) (.cons (.call 55 (.ref 898) (.cons (.loc 14) .nil)) .nil))) 2 (.loc 2) (.and (.not (.H2 (.loc 14) "startswith" (.cons (.str "[") .nil))) (.cmp .NotEq (.loc 13) (.str "$default"))))) (.cons (.asg 5 (.comp (.tup (.cons (.loc 13) (.cons (.call 55 (.ref 898) (.cons (.wP (.loc 14) (.int 1) (.neg (.int 1))) .nil)) .nil))) 2 (.loc 2) (.H2 (.loc 14) "startswith" (.cons (.str "[") .nil)))) (.cons (.asg 6 (.comp (.call 55 (.ref 898) (.cons (.loc 14) .nil)) 2 (.loc 2) (.cmp .Eq (.loc 13) (.str "$default")))) (.cons (.ite (.cmp .NotEq (.loc 6) (.ite (.cmp .Eq (.H2 (.loc 0) "default" (.cons (.loc 1) .nil)) (.int 0)) (.list .nil) (.list (.cons (.bin .Sub (.int 0) (.H2 (.loc 0) "default" (.cons (.loc 1) .nil))) .nil)))) (.cons (.ret (.bool false)) .nil) .nil) (.cons (.asg 7 (.list .nil)) (.cons (.R6 8 (.call 10 (.type "range") (.cons (.attr (.loc 0) "terminal_count") .nil)) (.cons (.ite (.cmp .NotEq (.H2 (.loc 0) "explicit" (.cons (.loc 1) (.cons (.loc 8) .nil))) (.int 0)) (.cons (.expr (.H2 (.loc 7) "append" (.cons (.tup (.cons (.sub (.attr (.loc 0) "names") (.loc 8)) (.cons (.H2 (.loc 0) "explicit" (.cons (.loc 1) (.cons (.loc 8) .nil))) .nil))) .nil))) .nil) .nil) .nil)) (.cons (.asg 9 (.list .nil)) (.cons (.R6 10 (.attr (.loc 0) "conflicts") (.cons (.R6 11 (.attr (.loc 10) "rules") (.cons (.asg 12 (.tup (.cons (.sub (.attr (.loc 0) "names") (.attr (.loc 10) "terminal")) (.cons (.bin .Sub (.int 0) (.loc 11)) .nil)))) (.cons (.ite (.and (.cmp .Eq (.attr (.loc 10) "state") (.loc 1)) (.and (.cmp .NotEq (.attr (.loc 10) "chosen") (.bin .Sub (.int 0) (.loc 11))) (.cmp .NotIn (.loc 12) (.loc 9)))) (.cons (.expr (.H2 (.loc 9) "append" (.cons (.loc 12) .nil))) .nil) .nil) .nil))) .nil)) (.cons (.ret (.and (.cmp .Eq (.call 13 (.builtin "sorted") (.cons (.loc 4) .nil)) (.call 13 (.builtin "sorted") (.cons (.loc 7) .nil))) (.and (.cmp .Eq (.call 13 (.builtin "sorted") (.cons (.loc 5) .nil)) (.call 13 (.builtin "sorted") (.cons (.loc 9) .nil))) (.cmp .Eq (.bin .Add (.bin .Add (.call 1 (.builtin "len") (.cons (.loc 4) .nil)) (.call 1 (.builtin "len") (.cons (.loc 5) .nil))) (.call 1 (.builtin "len") (.cons (.loc 6) .nil))) (.call 1 (.builtin "len") (.cons (.loc 3) .nil)))))) .nil))))))))))
def vC:V0:=(.cons (.asg 4 (.call 59 (.ref 884) (.cons (.call 60 (.ref 853) (.cons (.loc 0) (.cons (.loc 1) (.cons (.loc 3) .nil)))) .nil))) (.cons (.ite (.or (.cmp .Lt (.call 1 (.builtin "len") (.cons (.loc 4) .nil)) (.int 2)) (.or (.cmp .NotEq (.sub (.loc 4) (.int 0)) (.list (.cons (.bin .Add (.str "State ") (.call 27 (.type "str") (.cons (.loc 3) .nil))) .nil))) (.not (.call 58 (.ref 910) (.cons (.loc 0) (.cons (.loc 2) (.cons (.loc 3) (.cons (.sub (.loc 4) (.int 1)) .nil)))))))) (.cons (.ret (.bool false)) .nil) .nil) (.cons (.asg 5 (.list .nil)) (.cons (.asg 6 (.list .nil)) (.cons (.R6 7 (.wP (.loc 4) (.int 2) .absent) (.cons (.rS [8,9] (.call 57 (.ref 891) (.cons (.loc 7) .nil)) (.cons (.ite (.H2 (.loc 9) "startswith" (.cons (.str "go to state ") .nil)) (.cons (.expr (.H2 (.loc 6) "append" (.cons (.tup (.cons (.loc 8) (.cons (.call 53 (.type "int") (.cons (.wP (.loc 9) (.call 1 (.builtin "len") (.cons (.str "go to state ") .nil)) .absent) .nil)) .nil))) .nil))) .nil) (.cons (.expr (.H2 (.loc 5) "append" (.cons (.tup (.cons (.loc 8) (.cons (.loc 9) .nil))) .nil))) .nil)) .nil)) .nil)) (.cons (.asg 10 (.list .nil)) (.cons (.R6 11 (.call 10 (.type "range") (.cons (.attr (.loc 1) "terminal_count") (.cons (.call 1 (.builtin "len") (.cons (.attr (.loc 1) "names") .nil)) .nil))) (.cons (.ite (.cmp .GtE (.H2 (.loc 1) "goto" (.cons (.loc 3) (.cons (.loc 11) .nil))) (.int 0)) (.cons (.expr (.H2 (.loc 10) "append" (.cons (.tup (.cons (.sub (.attr (.loc 1) "names") (.loc 11)) (.cons (.H2 (.loc 1) "goto" (.cons (.loc 3) (.cons (.loc 11) .nil))) .nil))) .nil))) .nil) .nil) .nil)) (.cons (.ret (.and (.cmp .Eq (.call 13 (.builtin "sorted") (.cons (.loc 6) .nil)) (.call 13 (.builtin "sorted") (.cons (.loc 10) .nil))) (.call 56 (.ref 915) (.cons (.loc 1) (.cons (.loc 3) (.cons (.loc 5) .nil)))))) .nil))))))))
def Pt:V0:=(.cons (.asg 1 (.call 66 (.ref 860) (.cons (.loc 0) .nil))) (.cons (.asg 2 (.call 65 (.ref 879) (.cons (.loc 1) .nil))) (.cons (.asg 3 (.call 64 (.ref 204) (.cons (.comp (.tup (.cons (.loc 8) (.cons (.call 2 (.type "list") (.cons (.loc 9) .nil)) .nil))) 2 (.loc 2) (.bool true)) .nil))) (.cons (.asg 4 (.call 63 (.ref 763) (.cons (.loc 3) (.cons (.cmp .Eq (.call 51 (.ref 867) (.cons (.loc 1) (.cons (.int 2) .nil))) (.int 1)) .nil)))) (.cons (.asg 5 (.call 62 (.ref 820) (.cons (.loc 3) .nil))) (.cons (.asg 6 (.bin .Add (.list (.cons (.tup (.cons (.str "$accept") (.cons (.list (.cons (.str "s") (.cons (.str "$end") .nil))) .nil))) .nil)) (.loc 2))) (.cons (.R6 7 (.call 10 (.type "range") (.cons (.H2 (.loc 4) "state_count" .nil) .nil)) (.cons (.ite (.not (.call 61 (.ref 922) (.cons (.loc 5) (.cons (.loc 4) (.cons (.loc 6) (.cons (.loc 7) .nil)))))) (.cons (.ret (.bool false)) .nil) .nil) .nil)) (.cons (.ret (.cmp .Eq (.call 1 (.builtin "len") (.cons (.attr (.attr (.loc 5) "automaton") "states") .nil)) (.H2 (.loc 4) "state_count" .nil))) .nil))))))))
def gt:List GE:=[(Str.ofString "reversed",.type "reversed",[]),(Str.ofString "len",.builtin "len",[]),(Str.ofString "list",.type "list",[]),(Str.ofString "Grammar",.ref 181,[]),(Str.ofString "Rule",.ref 99,[]),(Str.ofString "last_terminal",.ref 198,[]),(Str.ofString "tuple",.type "tuple",[]),(Str.ofString "END_grammar",.int (0) 278,[]),(Str.ofString "OWN_TERMINALS",.ref 81,["$end","error","$undefined"]),(Str.ofString "spread",.ref 209,[]),(Str.ofString "range",.type "range",[]),(Str.ofString "NONE",.int (-1) 491,[]),(Str.ofString "transitive",.ref 223,[]),(Str.ofString "sorted",.builtin "sorted",[]),(Str.ofString "bits",.ref 80,[]),(Str.ofString "advanced",.ref 307,[]),(Str.ofString "Closer",.ref 296,[]),(Str.ofString "LrState",.ref 254,[]),(Str.ofString "kernels_behind",.ref 314,[]),(Str.ofString "complete_rules",.ref 321,[]),(Str.ofString "Automaton",.ref 373,[]),(Str.ofString "Builder",.ref 415,[]),(Str.ofString "digraph",.ref 433,[]),(Str.ofString "nullable",.ref 216,[]),(Str.ofString "add_once",.ref 501,[]),(Str.ofString "max",.builtin "max",[]),(Str.ofString "Lookaheads",.ref 490,[]),(Str.ofString "str",.type "str",[]),(Str.ofString "BARRED",.int (-1048576) 931,[]),(Str.ofString "ACCEPT",.int (1048576) 926,[]),(Str.ofString "END_tables",.int (0) 933,[]),(Str.ofString "settle",.ref 688,[]),(Str.ofString "Conflict",.ref 637,[]),(Str.ofString "ERROR",.int (1) 935,[]),(Str.ofString "ParseTables",.ref 679,[]),(Str.ofString "without",.ref 747,[]),(Str.ofString "default_of",.ref 742,[]),(Str.ofString "RowMaker",.ref 731,[]),(Str.ofString "checked",.ref 777,[]),(Str.ofString "fill",.ref 755,[]),(Str.ofString "lalr_masks",.ref 508,[]),(Str.ofString "build",.ref 426,[]),(Str.ofString "conflict_counts",.ref 770,[]),(Str.ofString "show_rule",.ref 191,[]),(Str.ofString "View",.ref 811,[]),(Str.ofString "show_action",.ref 613,[]),(Str.ofString "lost_rules",.ref 834,[]),(Str.ofString "show_settled",.ref 846,[]),(Str.ofString "show_rows",.ref 839,[]),(Str.ofString "action_rows",.ref 827,[]),(Str.ofString "abs",.builtin "abs",[]),(Str.ofString "_law_draw",.ref 867,[]),(Str.ofString "_law_right",.ref 872,[]),(Str.ofString "int",.type "int",[]),(Str.ofString "_law_item_text",.ref 905,[]),(Str.ofString "_law_act",.ref 898,[]),(Str.ofString "_law_row_fits",.ref 915,[]),(Str.ofString "_law_cells",.ref 891,[]),(Str.ofString "_law_items_fit",.ref 910,[]),(Str.ofString "_law_parts",.ref 884,[]),(Str.ofString "show_state",.ref 853,[]),(Str.ofString "_law_state_fits",.ref 922,[]),(Str.ofString "lalr_view",.ref 820,[]),(Str.ofString "lalr_tables",.ref 763,[]),(Str.ofString "plain_grammar",.ref 204,[]),(Str.ofString "_law_pairs",.ref 879,[]),(Str.ofString "_law_pen",.ref 860,[])]
def tb:fL:=⟨[(99,[]),(181,[("symbol_count",122),("is_terminal",129),("is_middle",136),("number",143),("rules_of",150),("item",157),("rule_of",164),("dot_of",171),("after",178)]),(254,[("goto",244),("is_consistent",251)]),(296,[("wanted",279),("added",286),("close",293)]),(373,[("goto",342),("walk",349),("path",356),("final_state",363),("transition_count",370)]),(415,[("number_of",398),("expand",405),("built",412)]),(490,[("number_transitions",452),("find_reads",459),("find_includes",466),("open_ends",473),("joined_masks",480),("sizes",487)]),(602,[("terminal",529),("left",536),("length",543),("before",550),("state_count",557),("explicit",564),("default",571),("goto",578),("action",585),("expected",592),("is_consistent",599)]),(637,[("told",634)]),(679,[("state_count",662),("explicit",669),("goto",676),("terminal",529),("left",536),("length",543),("before",550),("default",571),("action",585),("expected",592),("is_consistent",599)]),(731,[("settle_levels",709),("settle_one",716),("row",723),("conflicts",728)]),(811,[("items_of",796),("complete",803),("show_item",808)])],[(99,["number","left","right","level_of","action","line","before"]),(181,["names","terminal_count","rules","levels","expect","start","by_left","offsets","owners","item_count"]),(254,["number","kernel","symbol","items","moves","reductions"]),(296,["grammar","firsts"]),(373,["grammar","states"]),(415,["grammar","closer","states","numbers"]),(490,["automaton","nullables","transitions","index","direct","reads","includes","turns","lookback","read_masks","follow_masks","masks"]),(602,["names","terminal_count","lefts","lengths","befores","defaults","numbers"]),(637,["state","terminal","way","rules","chosen"]),(679,["grammar","rows","gotos","defaults","conflicts","settled","mode","names","terminal_count","lefts","lengths","befores","numbers"]),(731,["grammar","number","shifts","gotos","looks","barred","settled"]),(811,["grammar","automaton","cores","masks"])]⟩
def WJ:P0:=⟨80,["mask"],[],["found","at","left"],Kb⟩
def wZ:P0:=⟨96,["self","number","left","right","level_of","action","line","before"],[.int (-1),.none,.int (0),.int (0)],[],JK⟩
def oN:P0:=⟨115,["self","names","terminal_count","rules","levels","expect","start"],[],["rule"],AK⟩
def dX:P0:=⟨122,["self"],[],[],lV⟩
def eX:P0:=⟨129,["self","symbol"],[],[],nP⟩
def iE:P0:=⟨150,["self","symbol"],[],[],rJ⟩
def oM:P0:=⟨157,["self","rule","dot"],[],[],AJ⟩
def jI:P0:=⟨164,["self","item"],[],[],tP⟩
def kU:P0:=⟨171,["self","item"],[],[],vH⟩
def nE:P0:=⟨178,["self","item"],[],["right","dot"],xW⟩
def wQ:P0:=⟨191,["grammar","number","dot"],[.int (-1)],["rule","words"],JC⟩
def mZ:P0:=⟨198,["right","terminal_count"],[],["found","symbol"],xT⟩
def mW:P0:=⟨204,["pairs","start"],[.none],["lefts","left","parts","begin","names","name","count","rules","right"],xQ⟩
def IX:P0:=⟨209,["grammar","known"],[],["found","lacking","users","queue","rule","missing","symbol","at","number","left"],WN⟩
def zX:P0:=⟨216,["grammar"],[],[],MO⟩
def tG:P0:=⟨223,["rows"],[],["found","middle","one"],GK⟩
def oK:P0:=⟨237,["self","number","kernel","symbol"],[],[],AH⟩
def oL:P0:=⟨244,["self","symbol"],[],[],AI⟩
def qQ:P0:=⟨272,["self","grammar"],[],["rows","rule"],CZ⟩
def nG:P0:=⟨279,["self","kernel"],[],["mask","item","symbol"],xY⟩
def oP:P0:=⟨286,["self","kernel"],[],["found","symbol","number","item"],AM⟩
def oO:P0:=⟨293,["self","kernel"],[],[],AL⟩
def zZ:P0:=⟨307,["grammar","item"],[],[],MQ⟩
def kQ:P0:=⟨314,["grammar","items"],[],["found","item","symbol","ordered"],vD⟩
def kR:P0:=⟨321,["grammar","items"],[],["found","item"],vE⟩
def kX:P0:=⟨335,["self","grammar","states"],[],[],vJ⟩
def kY:P0:=⟨342,["self","state","symbol"],[],[],vK⟩
def oQ:P0:=⟨391,["self","grammar"],[],[],AN⟩
def gN:P0:=⟨398,["self","kernel","symbol"],[],[],qD⟩
def kW:P0:=⟨405,["self","state"],[],["behind","symbol"],vI⟩
def nH:P0:=⟨412,["self"],[],["at"],xZ⟩
def PX:P0:=⟨426,["grammar"],[],[],Ch⟩
def EF:P0:=⟨433,["count","relation","masks"],[],["result","heights","done","pile","start","frames","frame","x","y","last"],SY⟩
def jH:P0:=⟨445,["self","automaton"],[],["count"],tO⟩
def aL:P0:=⟨452,["self"],[],["grammar","state","symbol"],eS⟩
def dM:P0:=⟨459,["self"],[],["grammar","state","symbol","goal","mask","row","moves","later"],lB⟩
def cE:P0:=⟨466,["self"],[],["grammar","state","rule","x","first","left","right","ends","at","spot","symbol","inner"],iH⟩
def dW:P0:=⟨473,["self","right"],[],["spot"],lU⟩
def cP:P0:=⟨480,["self"],[],["masks","pair","mask","x"],iX⟩
def AA:P0:=⟨501,["row","number"],[],[],MR⟩
def tJ:P0:=⟨508,["automaton"],[],[],GO⟩
def qP:P0:=⟨522,["self","names","terminal_count","lefts","lengths","befores"],[],["number"],CY⟩
def kT:P0:=⟨571,["self","state"],[],[],vG⟩
def qM:P0:=⟨613,["tables","number"],[],[],CV⟩
def nF:P0:=⟨627,["self","state","terminal","way","rules","chosen"],[],[],xX⟩
def cO:P0:=⟨662,["self"],[],[],iW⟩
def dU:P0:=⟨669,["self","state","terminal"],[],[],lT⟩
def iD:P0:=⟨676,["self","state","nonterminal"],[],[],rI⟩
def IY:P0:=⟨688,["grammar","rule","terminal"],[],["own","other"],WO⟩
def nB:P0:=⟨702,["self","grammar","state","masks"],[],["symbol","rule"],xV⟩
def cY:P0:=⟨709,["self"],[],["look","terminal","way"],jQ⟩
def oJ:P0:=⟨723,["self"],[],["row","look","terminal"],AG⟩
def fR:P0:=⟨728,["self","row"],[],["found","terminal","rules","other","pair"],oV⟩
def tK:P0:=⟨742,["row"],[],["counts","number","best","rule"],GP⟩
def EC:P0:=⟨747,["row","rule"],[],[],SV⟩
def WI:P0:=⟨755,["automaton","masks","with_defaults","mode"],[.str (Str.ofString "lalr")],["rows","gotos","defaults","conflicts","settled","state","maker","row","rule"],Ka⟩
def qN:P0:=⟨763,["grammar","with_defaults"],[.bool true],["automaton"],CW⟩
def EG:P0:=⟨777,["tables"],[],["wanted","shifts","reductions"],SZ⟩
def wY:P0:=⟨791,["self","grammar","automaton","cores","masks"],[],[],JJ⟩
def nA:P0:=⟨796,["self","number"],[],["core"],xU⟩
def kS:P0:=⟨808,["self","number","item"],[],["grammar","rule","text","names"],vF⟩
def wX:P0:=⟨820,["grammar"],[],["automaton"],JI⟩
def qO:P0:=⟨827,["tables","state"],[],["shifts","barred","reductions","terminal","told","pair","rule"],CX⟩
def tI:P0:=⟨834,["tables","state","terminal"],[],["found","conflict","rule"],GN⟩
def wR:P0:=⟨839,["rows"],[],["wide","name","what"],JD⟩
def oF:P0:=⟨846,["tables","state"],[],["lines","conflict","way","head"],AE⟩
def tH:P0:=⟨853,["view","tables","state"],[],["lines","item","gotos","symbol","goal","part"],GL⟩
def ED:P0:=⟨860,["script"],[],["number","cell"],SW⟩
def zY:P0:=⟨867,["pen","many"],[],["digit"],MP⟩
def wT:P0:=⟨872,["pen","length"],[],[],JE⟩
def wV:P0:=⟨879,["pen"],[],["more","pairs","turn","left"],JG⟩
def wU:P0:=⟨884,["lines"],[],["parts","line"],JF⟩
def wW:P0:=⟨891,["part"],[],["cells","line","at"],JH⟩
def EE:P0:=⟨898,["what"],[],[],SX⟩
def mY:P0:=⟨905,["pairs","number","dot"],[],["left","right"],xS⟩
def mX:P0:=⟨910,["view","pairs","state","part"],[],["grammar","due","item","number","dot","shown","mask","names"],xR⟩
def oH:P0:=⟨915,["tables","state","cells"],[],["names","plain","lost","common","due","terminal","due_lost","conflict","rule","pair"],AF⟩
def kP:P0:=⟨922,["view","tables","pairs","state"],[],["parts","acts","goals","part","name","what","due_goals","symbol"],vC⟩
def Hb:P0:=⟨927,["script"],[],["pen","pairs","grammar","tables","view","own_rules","state"],Pt⟩
def rows:List P0:=[WJ,wZ,oN,dX,eX,iE,oM,jI,kU,nE,wQ,mZ,mW,IX,zX,tG,oK,oL,qQ,nG,oP,oO,zZ,kQ,kR,kX,kY,oQ,gN,kW,nH,PX,EF,jH,aL,dM,cE,dW,cP,AA,tJ,qP,kT,qM,nF,cO,dU,iD,IY,nB,cY,oJ,fR,tK,EC,WI,qN,EG,wY,nA,kS,wX,qO,tI,wR,oF,tH,ED,zY,wT,wV,wU,wW,EE,mY,mX,oH,kP,Hb]
def EU:List (Addr×Addr):=[(99,96),(181,115),(254,237),(296,272),(373,335),(415,391),(490,445),(637,627),(679,655),(731,702),(811,791)]
def blt:List (Str×Value):=[(Str.ofString "reversed",.type "reversed"),(Str.ofString "len",.builtin "len"),(Str.ofString "list",.type "list"),(Str.ofString "tuple",.type "tuple"),(Str.ofString "range",.type "range"),(Str.ofString "sorted",.builtin "sorted"),(Str.ofString "max",.builtin "max"),(Str.ofString "str",.type "str"),(Str.ofString "abs",.builtin "abs"),(Str.ofString "int",.type "int")]
def Jz(K:Frag)(prog:Program):Bool:=gtB K blt gt&&(Jf K tb&&(rows.all (P0.ok K gt)&&(EU.all (λ p=>QN K p.1 p.2)&&Bx K gt prog 655 [Str.ofString "self",Str.ofString "grammar",Str.ofString "rows",Str.ofString "gotos",Str.ofString "defaults",Str.ofString "conflicts",Str.ofString "settled",Str.ofString "mode"] [Str.ofString "lefts",Str.ofString "lengths",Str.ofString "befores"] aV 679 679 645 522)))
structure dQ(W:Wd):Prop where
 ok:W.Ok
 all:Jz W.K W.prog=true
theorem Yd:(blt.all λ p=>(match bootBuiltins p.1 with|some v=>IP v p.2|none=>false)&&p.1 !=("__name__":Str))=true:=by decide+kernel
set_option tactic.hygienic true in
theorem CB:∀p∈blt,bootBuiltins p.1=some p.2∧p.1≠"__name__":=λ p hp=>by
 have:=G3.mp Yd p hp
 simp only[W2,bG]at this
 delta this h h2
 split at h
 ·rename_i v e;exact⟨by rw[e,sY h],h2⟩
 ·cases h
section
variable{W:Wd}(P:dQ W)
include P
theorem dQ.gt:wK W gt:=Ln P.ok CB (F0.mp P.all).1
theorem dQ.tb:W.jK tb:=Bu (F0.mp (F0.mp P.all).2).1
theorem dQ.rest:(rows.all (P0.ok W.K Mine.Internal.gt)&&(EU.all (λ p=>QN W.K p.1 p.2)&&Bx W.K Mine.Internal.gt W.prog 655 [Str.ofString "self",Str.ofString "grammar",Str.ofString "rows",Str.ofString "gotos",Str.ofString "defaults",Str.ofString "conflicts",Str.ofString "settled",Str.ofString "mode"] [Str.ofString "lefts",Str.ofString "lengths",Str.ofString "befores"] aV 679 679 645 522))=true:=(F0.mp (F0.mp P.all).2).2
theorem dQ.i8(r:P0)(i:Nat)(h:rows[i]? =some r){n:Nat}{σ:PH}{args ρ:List PV}{Q:PV->PH->Prop}(hf:r.frame args=some ρ)(hq:Ny W Mine.Internal.tb n r.b ρ σ Q):KU W (n+1) (.ref r.a) args σ Q:=
 P0.call P.ok P.tb P.gt (G3.mp (F0.mp P.rest).1 r (B5 h)) hf hq
theorem dQ.Ui(r:P0)(i:Nat)(h:rows[i]? =some r){n:Nat}{σ:PH}{args ρ:List PV}{Q:PV->PH->Prop}(hf:r.frame args=some ρ)(hq:Ny W Mine.Internal.tb n r.b ρ σ Q):US W (n+1) (.ref r.a) args σ Q:=(P.i8 r i h hf hq).q9
theorem dQ.fn(r:P0)(i:Nat)(h:rows[i]? =some r){n:Nat}{σ:PH}{args ρ:List PV}{Q:PV->PH->Prop}(hf:r.frame args=some ρ)(hq:Ny W Mine.Internal.tb n r.b ρ σ Q):J9 W (n+1) (.ref r.a) args σ Q:=(P.Ui r i h hf hq).ok
theorem dQ.cls(i:Nat){C f:Addr}(h:EU[i]? =some (C,f)){n:Nat}{σ:PH}{args:List PV}{Q:PV->PH->Prop}
  (hq:∀x dx,x≠dx->σ x=none->σ dx=none->US W n (.ref f) (.ref x::args) ((σ.set dx (.attrs C [])).set x (.inst C dx)) (λ v B9=>v=.none∧Q (.ref x) B9)):J9 W (n+1) (.ref C) args σ Q:=
 Mi P.ok (XN (G3.mp (F0.mp (F0.mp P.rest).2).1 _ (B5 h))) hq
theorem dQ.wH{n:Nat}{σ:PH}{args:List PV}{Q:PV->PH->Prop}(h1:args.length=8)(hq:Jj W Mine.Internal.tb n aV 679 522 (args++List.replicate 3 .M7) σ Q):US W (n+1) (.ref 655) args σ Q:=
 Bw P.ok P.tb P.gt (by decide+kernel) (F0.mp (F0.mp P.rest).2).2 h1 hq
end
namespace Top
def sU(tb:String->Option Builtin)(p:Program)(w:World)(lE:Nat)(ann:Option Value):Nat->SharedT->Thread->Option SharedT
 |0,_,_=>none
 |n+1,s,t=>match through t with
  |true=>some s
  |false=>match stepOk lE ann t with
   |false=>none
   |true=>match stepT (denote tb) p w s t with
    |some (s',t')=>sU tb p w lE ann n s' t'
    |none=>none
theorem DQ{tb:String->Option Builtin}{p:Program}{w:World}{lE:Nat}{ann:Option Value}{n:Nat}{s:SharedT}{t:Thread}:sU tb p w lE ann (n+1) s t=match through t with
  |true=>some s
  |false=>match stepOk lE ann t with
   |false=>none
   |true=>match stepT (denote tb) p w s t with
    |some (s',t')=>sU tb p w lE ann n s' t'
    |none=>none:=rfl
theorem sR{tb:String->Option Builtin}{p:Program}{w:World}{lE:Nat}{ann:Option Value}:∀{n:Nat} {s s':SharedT} {t:Thread},sU tb p w lE ann n s t=some s'->topRun tb p w lE ann n s.abs t=some s'.abs
 |0,_,_,_,h=>by cases h
 |n+1,s,s',t,h=>by
  rw[DQ]at h
  unfold topRun
  cases he:through t with
  |true=>rw[he]at h;cases h;rfl
  |false=>
   rw[he]at h
   cases hk:stepOk lE ann t with
   |false=>rw[hk]at h;cases h
   |true=>
    rw[hk]at h
    cases hs:stepT (denote tb) p w s t with
    |none=>rw[hs]at h;cases h
    |some r=>obtain⟨fC,Jc⟩:=r;rw[hs]at h;rw[stepT_spec hs];exact sR h
def jG(tb:String->Option Builtin)(p:Program)(w:World)(lE:Nat)(ann:Option Value):Nat->SharedT->Thread->Option SharedT
 |0,_,_=>none
 |n+1,s,t=>match through t with
  |true=>some s
  |false=>match tw6613529449190102663 lE ann t with
   |false=>none
   |true=>match tw10156331382660048174 (tw11892475500146522536 tb) p w s t with
    |some (s',t')=>jG tb p w lE ann n s' t'
    |none=>none
theorem LP:@jG=@sU:=by
 funext tb p w lE ann n
 induction n with
 |zero=>rfl
 |succ n ih=>
  funext s t
  rw[DQ,<-ih,te6613529449190102663,te10156331382660048174,te11892475500146522536];rfl
def Zk:List Obj->Nat->BT->BT
 |[],_,t=>t
 |o::r,n,t=>Zk r (n+1) (t.ins n o)
def Sh(P:Params):BT:=Zk (boot_heap P).objs.toList 0 .nil
def s0(w:World)(os:OsState):SharedT:=⟨Sh w.params,11,{},#[],boot_drawn,boot_toks,os⟩
theorem Jt(w:World)(os:OsState):(s0 w os).abs=⟨boot_heap w.params,#[],boot_drawn,boot_toks,os⟩:=by kernel_rfl
abbrev pw:Program:=PySem.Challenge.pw_nn0417_01
def qv:Program:=view pw [71]
def lo:List Str:=pw.boundNames.filter λ n=>n !=("law":Str)
def mods:List Str:=importedModules pw.main.body
def Ul(w:World)(s:Shared):Bool:=staticsOk mods (boot_heap w.params) s.heap&&namesBound pw s.heap&&gensDone s&&laidKept (boot_heap w.params) s.heap
end Top
namespace Top
theorem Mx:opening pw=plainProg pw.main.scope.names:=by kernel_rfl
theorem Gi(s:Shared):fenceModules? pw s=some s:=by kernel_rfl
theorem Ww(w:World):(fencedOpening treeTable pw w 7000).map (λ s=>(s.heap,s.gens,s.drawn,s.toks))=some (boot_heap w.params,Array.mk [],boot_drawn,boot_toks):=boot_open (p:=pw) (N:=7000) Mx (by decide) Gi w
theorem z1(w:World):(boot_heap w.params).isNs mainGlobals=true:=by kernel_rfl
theorem z2(w:World):(boot_heap w.params).objs.size=11:=by kernel_rfl
theorem z3(w:World):(boot_heap w.params).nsMap mainGlobals "__annotations__"=some (.ref 6):=by kernel_rfl
theorem LQ{p:Program}{w:World}{H:Heap}{d:Drawn}{k lE:Nat}{os:OsState}{N:Nat}{ann:Option Value}{I2:Shared}(y1:H.isNs mainGlobals=true)(y2:H.objs.size=lE)(y3:H.nsMap mainGlobals "__annotations__"=ann)
  (r:topRun treeTable p w lE ann N ⟨H,#[],d,k,os⟩ (topStub p)=some I2)(c:(staticsOk (importedModules p.main.body) H I2.heap&&namesBound p I2.heap&&gensDone I2&&laidKept H I2.heap)=true):
  topFrom treeTable p w N ⟨H,#[],d,k,os⟩=some I2:=by
 subst y2 y3
 unfold topFrom
 dsimp only
 rw[y1,r]
 show(match(staticsOk (importedModules p.main.body) H I2.heap&&namesBound p I2.heap&&gensDone I2&&laidKept H I2.heap)with|true=>some I2|false=>none)=_
 rw[c]
theorem XJ{p q:Program}{l m:List Str}{N:Nat}{Xt:Shared->Bool}{H:Params->Heap}{d:Drawn}{k lE:Nat}{ann:Option Value}{S:World->OsState->SharedT}
  (Ww:∀w:World,(fencedOpening treeTable p w N).map (λ s=>(s.heap,s.gens,s.drawn,s.toks))=some (H w.params,Array.mk [],d,k))
  (y1:∀w:World,(H w.params).isNs mainGlobals=true)(y2:∀w:World,(H w.params).objs.size=lE)(y3:∀w:World,(H w.params).nsMap mainGlobals "__annotations__"=ann)(hS:∀w os,(S w os).abs=⟨H w.params,#[],d,k,os⟩)(hm:m=importedModules p.main.body)
  (h:∀(w:World) (os:OsState),(jG tw14364793385576792824 p w lE ann N (S w os) (topStub p)).map (λ s=>((staticsOk m (H w.params) s.abs.heap&&namesBound p s.abs.heap&&gensDone s.abs&&laidKept (H w.params) s.abs.heap),tw4187177175401517315 q l m Xt true s.abs))=some (true,openGood q l)):
  LeftO p q l Xt (λ _=>()) (λ _=>()) N true:=λ w=>by
 subst hm
 refine A0 (O3.mp (Ww w)) ?_;intro hZ;obtain⟨hp,gs,d',k',os⟩:=hZ;intro hZ;delta hZ e e'
 obtain⟨rfl,rfl,rfl,rfl⟩:And (hp=H w.params) (And (gs=Array.mk []) (And (d'=d) (k'=k))):=by simpa using e'
 refine A0 (O3.mp (h w os)) λ s hZ=>?_;delta hZ e1 e2
 rw[LP,<-te14364793385576792824]at e1
 rw[<-te4187177175401517315]at e2
 have e3:=sR e1
 rw[hS]at e3
 have hZ:=qE e2;delta hZ c1 c2
 have t:=LQ (y1 w) (y2 w) (y3 w) e3 c1
 unfold openEnds
 rw[e]
 show(topFrom treeTable p w N _).map _=_
 rw[t]
 exact C7 some (kG c2 rfl)
theorem Ct{Xt:Shared->Bool}(h:∀(w:World) (os:OsState),(jG tw14364793385576792824 pw w 11 (some (.ref 6)) 7000 (s0 w os) (topStub pw)).map (λ s=>(Ul w s.abs,tw4187177175401517315 qv lo mods Xt true s.abs))=some (true,openGood qv lo)):
  LeftO pw qv lo Xt (λ _=>()) (λ _=>()) 7000 true:=XJ Ww z1 z2 z3 Jt rfl h
end Top
namespace Top
theorem Nb:(defOf qv "law").isSome=true:=by kernel_rfl
theorem Na:pw.theDef "law"=(defOf qv "law").map (λ d=>(d.1.params,d.1.body,d.1.scope)):=by kernel_rfl
theorem Mz:((defOf qv "law").bind λ d=>kwWritten? d.1.params.kwonlyargs d.1.params.kw_defaults)=(defOf qv "law").map (·.2):=by kernel_rfl
theorem Sp:∃d Wh,defOf qv "law"=some (d,Wh)∧pw.theDef "law"=some (d.params,d.body,d.scope)∧kwWritten? d.params.kwonlyargs d.params.kw_defaults=some Wh:=by
 refine A0 (qV.mp Nb) ?_;intro hZ;obtain⟨d,k⟩:=hZ;intro e
 have e2:=Na
 have e3:=Mz
 rw[e]at e2 e3
 exact⟨d,k,e,e2,e3⟩
def uC:List Obj->Nat->Frag
 |[],_=>[]
 |o::r,n=>match o.isFreed with
  |true=>uC r (n+1)
  |false=>(n,o)::uC r (n+1)
theorem Dl{o:Obj}{r:List Obj}{n:Nat}:uC (o::r) n=match o.isFreed with
  |true=>uC r (n+1)
  |false=>(n,o)::uC r (n+1):=rfl
theorem JT:∀{l:List Obj} {n a:Nat} {o:Obj},(uC l n).lookup a=some o->n<=a∧l[a - n]? =some o∧o.isFreed=false
 |[],_,_,_,h=>by cases h
 |x::r,n,a,o,h=>by
  rw[Dl]at h
  have next:(uC r (n+1)).lookup a=some o->n<=a∧(x::r)[a - n]? =some o∧o.isFreed=false:=λ h=>by
   have hZ:=JT h;delta hZ h1 h2 h3
   refine⟨hU h1,?_,h3⟩
   rw[show a - n=(a - (n+1))+1 from(Nat.succ_pred_eq_of_pos (Nat.sub_pos_of_lt h1)).symm,gM]
   exact h2
  cases hx:x.isFreed with
  |true=>rw[hx]at h;exact next h
  |false=>
   rw[hx]at h
   change List.lookup a ((n,x)::uC r (n+1))=some o at h
   rw[I1]at h
   cases hb:(a==n)with
   |true=>
    rw[hb]at h
    cases h
    have:a=n:=eq_of_beq hb
    subst this
    exact⟨D7 _,by rw[hJ];rfl,hx⟩
   |false=>rw[hb]at h;exact next h
def nK(h:Heap):Frag:=uC h.objs.toList 0
theorem XZ(h:Heap):(nK h).In h:=λ a o e=>by
 have hZ:=JT e;delta hZ hZ e2 e3
 rw[Nat.sub_zero,Array.getElem?_toList]at e2
 unfold Heap.get?
 rw[e2]
 obtain⟨c,d,dt,sl⟩:=o
 cases dt<;>first|rfl|cases e3
def Uo(s:Shared):Bool:=Jz (nK s.heap) pw&&(((nK s.heap).lookup sysModules).isSome&&Bc (nsIn (nK s.heap) mainGlobals "law") (.ref 927))
def Sq(_:Str->Option Value)(h:Heap):Prop:=∃K:Frag,Jz K pw=true∧((K.lookup sysModules).isSome&&Bc (nsIn K mainGlobals "law") (.ref 927))=true∧K.In h
theorem bo(s:Shared)(h:Uo s=true):Sq (s.heap.nsMap mainGlobals) s.heap:=⟨_,(F0.mp h).1,(F0.mp h).2,XZ _⟩
theorem Xf(mg:Str->Option Value)(h h':Heap)(x:Sq mg h)(k:∀b o,h.get? b=some o->h'.get? b=some o):Sq mg h':=let⟨K,a,b,c⟩:=x;⟨K,a,b,c.keeps k⟩
end Top
namespace Top
def X1(s:Shared):Bool:=gtB (nK s.heap) blt gt&&(Jf (nK s.heap) tb&&(rows.take 40).all (P0.ok (nK s.heap) gt))
def X2(s:Shared):Bool:=((rows.drop 40).all (P0.ok (nK s.heap) gt)&&(EU.all (λ p=>QN (nK s.heap) p.1 p.2)&&Bx (nK s.heap) gt pw 655 [Str.ofString "self",Str.ofString "grammar",Str.ofString "rows",Str.ofString "gotos",Str.ofString "defaults",Str.ofString "conflicts",Str.ofString "settled",Str.ofString "mode"] [Str.ofString "lefts",Str.ofString "lengths",Str.ofString "befores"] aV 679 679 645 522))&&(((nK s.heap).lookup sysModules).isSome&&Bc (nsIn (nK s.heap) mainGlobals "law") (.ref 927))
theorem Gg{α:Type}{p:α->Bool}{l:List α}{n:Nat}(h1:(l.take n).all p=true)(h2:(l.drop n).all p=true):l.all p=true:=by
 rw[<-List.take_append_drop n l,List.all_append,h1,h2];rfl
theorem xt{a b c d e f g:Bool}(h1:(a&&(b&&c))=true)(h2:((d&&e)&&f)=true)(h3:c=true->d=true->g=true):((a&&(b&&(g&&e)))&&f)=true:=tt (tt (an h1).1 (tt (an (an h1).2).1 (tt (h3 (an (an h1).2).2 (an (an h2).1).1) (an (an h2).1).2))) (an h2).2
theorem q7{s:Shared}(h1:X1 s=true)(h2:X2 s=true):Uo s=true:=xt h1 h2 Gg
theorem Rt{r:Option SharedT}{c:Shared->Bool}{q:Program}{l m:List Str}{X Y Z:Shared->Bool}{g:Seen×(Option Str×List (Str×Value))×Bool×Bool×(List (Option FnShape)×Bool)×List (Option PlainShape)×List (Option (PlainShape×Bool))×(List (Option FnShape)×Bool)×List (Option (List (Option FnShape)×Bool)×Option (PlainShape×Bool))}
  (e1:r.map (λ s=>(c s.abs,tw4187177175401517315 q l m (λ _=>true) true s.abs))=some (true,g))(e2:r.map (λ s=>Y s.abs)=some true)(e3:r.map (λ s=>Z s.abs)=some true)(h:∀{s},Y s=true->Z s=true->X s=true):
  r.map (λ s=>(c s.abs,tw4187177175401517315 q l m X true s.abs))=some (true,g):=by
 cases r with
 |none=>cases e2
 |some s=>
  rw[<-e1]
  have x:=h (H1 e2) (H1 e3)
  show some (c s.abs,tw4187177175401517315 q l m X true s.abs)=some (c s.abs,tw4187177175401517315 q l m (λ _=>true) true s.abs)
  unfold tw4187177175401517315
  rw[x]
theorem cq:∀(w:World) (os:OsState),(jG tw14364793385576792824 pw w 11 (some (.ref 6)) 7000 (s0 w os) (topStub pw)).map (λ s=>(Ul w s.abs,tw4187177175401517315 qv lo mods (λ _=>true) true s.abs))=some (true,openGood qv lo):=by
 intro w os;kernel_rfl
theorem Rv:∀(w:World) (os:OsState),(jG tw14364793385576792824 pw w 11 (some (.ref 6)) 7000 (s0 w os) (topStub pw)).map (λ s=>X1 s.abs)=some true:=by
 intro w os;kernel_rfl
theorem ck:∀(w:World) (os:OsState),(jG tw14364793385576792824 pw w 11 (some (.ref 6)) 7000 (s0 w os) (topStub pw)).map (λ s=>X2 s.abs)=some true:=by
 intro w os;kernel_rfl
theorem ev(w:World)(os:OsState):(jG tw14364793385576792824 pw w 11 (some (.ref 6)) 7000 (s0 w os) (topStub pw)).map (λ s=>(Ul w s.abs,tw4187177175401517315 qv lo mods Uo true s.abs))=some (true,openGood qv lo):=Rt (c:=Ul w) (cq w os) (Rv w os) (ck w os) q7
theorem Yi:(chainsOk qv&&opensWell pw&&(frees PySem.Challenge.rw_nn0417_01.row.toRowW&&PySem.Challenge.rw_nn0417_01.row.within.isEmpty))=true:=by kernel_rfl
theorem Nc:pw.bare:=⟨rfl,rfl,rfl,rfl,rfl,by decide+kernel⟩
theorem Mw:PySem.Challenge.rw_nn0417_01.row.toRowW.promised:=by w_witness2
set_option maxHeartbeats 0 in
theorem Mv:PySem.Challenge.rw_nn0417_01.wellSaid=true:=by
 delta OpenLaw.wellSaid
 iterate 18 refine look_both ?_ (by decide+kernel)
 delta OpenRow.wellSaid
 iterate 2 refine look_both ?_ (by decide+kernel)
 delta OpenRow.partSaid
 iterate 13 refine look_both ?_ (by decide+kernel)
 delta looksOpen
 iterate 5 refine look_both ?_ (by decide+kernel)
 decide+kernel
end Top
namespace Top
theorem My:importsNone qv=true:=by kernel_rfl
theorem IH{h:Heap}:∀{vs:List Value} {ns:List Int},IntsAre vs ns->bO h (ns.map .int) vs
 |_,_,x=>by
  induction x with
  |nil=>exact .nil
  |cons _ t _ ih=>exact .cons (.int _ t) ih
theorem Px{w:World}{VO:Shared}{mg mb:Str->Option Value}{h:Heap}{K:Frag}{a:Addr}{vs:List Value}{ns:List Int}(G:Ground qv lo [] Sq w VO mg mb h)(IB:K.In h)(sm:(K.lookup sysModules).isSome=true)(hL:h.IsList a vs.toArray)(hI:IntsAre vs ns)(hz:ns.length<=2^20):
  Wd.Ok ⟨pw,w,K,h,mg,mb,a,ns⟩:=by
 obtain⟨o,ho⟩:=qV.mp sm
 exact⟨IB,G.T.g,G.T.b,G.T.builtins,G.T.nolimit,G.T.nodigits,G.T.seer My,rfl,⟨o,IB _ _ ho⟩,vs,hL,IH hI,hz⟩
theorem s8:Nf 60 callerA:=⟨rfl,by decide,by decide,_,rfl⟩
set_option tactic.hygienic true in
theorem fin(Zo:∀W:Wd,dQ W->W.PJ.length<=63->KU W 60 (.ref 927) [.ref W.xN] (λ _=>none) λ v _=>v=.bool true):PySem.Challenge.rw_nn0417_01.Holds:=by
 obtain⟨d,Wh,e1,e2,e3⟩:=Sp
 refine holds_law Mv λ Vo=>?_
 refine holds_open (r:=PySem.Challenge.rw_nn0417_01.row) (q:=qv) (loose:=lo) (Xt:=Uo) (XP:=Sq) (Yf:=λ _=>()) (Ya:=λ _=>()) (YP:=λ _ _=>True) (N:=7000) (Ct ev) (λ _ _ _=>trivial) (λ _ _ _ _ _=>trivial) bo Xf e1 e2 e3 (λ s _=>recFacts_nil rfl) rfl Vo Yi Nc Mw ?_
 intro w VO I2 mg mb G Y fa o pm cd doc dV kV ho hd fk hD b6 hg args vals as vT Xb y7 x8 Hx
 wrow_args vT Xb y7 x8 Hx
 rename_i ns _ _ _ _ _ _ _ a vs _ hL _ _ _ hI _ hz _
 obtain⟨K,k1,k2,k3⟩:=G.X
 obtain⟨k2,k4⟩:=F0.mp k2
 have Db:ns.length<=63:=by lia
 have hW:=Px G k3 k2 hL hI (by lia)
 have hn:d.name="law":=defOf_name e1
 have hm:=mg_of k3 G.T.g (rO k4)
 rw[hn,show mg (Str.ofString "law")=_ from hm]at b6
 cases b6
 have S:SR ⟨pw,w,K,I2.heap,mg,mb,a,ns⟩ (λ _=>none) I2.heap:=⟨λ _ _ e=>(nomatch e),λ _ _ e=>e,λ _ e=>absurd rfl e⟩
 have:=Zo ⟨pw,w,K,I2.heap,mg,mb,a,ns⟩ ⟨hW,k1⟩ Db callerA I2 [.ref a] s8 S (.cons (.ref a) .nil)
 refine wpAny_call (codeAny_mono this λ r s' p=>?_)
 cases r with
 |error e=>exact p.elim
 |ok c=>cases c with
 |ret v=>
  obtain⟨pv,B9,rfl,rv,S',_,m⟩:=p
  cases rv
  obtain⟨h',tk,rfl⟩:=m
  exact⟨.inl ⟨_,.bool true,[],rfl,λ _=>rfl,.bool ..,by kernel_rfl,λ _=>⟨.nil,λ _ h=>(nomatch h)⟩⟩,.of_keep S'.keep,rfl,.of_eq hg⟩
 |_=>exact p.elim
end Top
section
variable{W:Wd}{n:Nat}{σ:PH}{Q:PV->PH->Prop}
theorem LH{f:Value}{x:PV}(h:∀A s v,Rm n A->SR W σ s.heap->VR s.heap x v->wpAny W.M A (call f [v]) (K4 W σ s Q) (λ _ _=>False) s):J9 W n f [x] σ Q:=λ A s vs rm S rv=>by
 cases rv with|cons r q=>cases q;exact h A s _ rm S r
theorem YD{f:Value}{x y:PV}(h:∀A s v u,Rm n A->SR W σ s.heap->VR s.heap x v->VR s.heap y u->wpAny W.M A (call f [v,u]) (K4 W σ s Q) (λ _ _=>False) s):J9 W n f [x,y] σ Q:=λ A s vs rm S rv=>by
 cases rv with|cons r q=>cases q with|cons r2 q=>cases q;exact h A s _ _ rm S r r2
theorem Xu{f:Value}{x y z:PV}(h:∀A s v u t,Rm n A->SR W σ s.heap->VR s.heap x v->VR s.heap y u->VR s.heap z t->wpAny W.M A (call f [v,u,t]) (K4 W σ s Q) (λ _ _=>False) s):J9 W n f [x,y,z] σ Q:=λ A s vs rm S rv=>by
 cases rv with|cons r q=>cases q with|cons r2 q=>cases q with|cons r3 q=>cases q;exact h A s _ _ _ rm S r r2 r3
theorem K4.val{A:Around}{s:Shared}{v:Value}{pv:PV}{tk:Tok}(S:SR W σ s.heap)(r:VR s.heap pv v)(q:Q pv σ):K4 W σ s Q v {s with toks:=tk}:=⟨pv,σ,q,r,S,.refl _ _,⟨s.heap,tk,rfl⟩⟩
theorem K4.keep{s:Shared}{v:Value}{pv:PV}{tk:Tok}{h':Heap}(S:SR W σ s.heap)(k:∀b o,s.heap.get? b=some o->h'.get? b=some o)(r:VR h' pv v)(q:Q pv σ):K4 W σ s Q v {s with heap:=h',toks:=tk}:=⟨pv,σ,q,r,S.keeps k,.keeps k,⟨h',tk,rfl⟩⟩
theorem K4.made{s:Shared}{a:Addr}{o:PO}{ob:Obj}{tk:Tok}{h':Heap}(S:SR W σ s.heap)(k:∀b o,s.heap.get? b=some o->h'.get? b=some o)(na:s.heap.get? a=none)(e:h'.get? a=some ob)(r:OR W h' o ob)(q:∀c,σ c=none->Q (.ref c) (σ.set c o)):
  K4 W σ s Q (.ref a) {s with heap:=h',toks:=tk}:=by
 have hZ:=S.alloc na k e r;delta hZ S' x z
 exact⟨_,_,q _ z,.ref _,S',x,⟨h',tk,rfl⟩⟩
theorem OF{a:Addr}{xs:List PV}(e:σ a=some (.list xs))(q:Q (.int xs.length) σ):J9 W n (.builtin "len") [.ref a] σ Q:=LH λ A s v rm S r=>by
 cases r
 refine ee2.e (S.list e) λ vs k hZ=>?_;delta hZ e1 r1 z
 have l:=r1.length
 refine call_len_list (Q3 e1) (by rw[H0];lia) ?_
 rw[H0,l]
 exact K4.val (A:=A) S (.int _ _) q
theorem UP{x:Str}(q:Q (.int x.length) σ):J9 W n (.builtin "len") [.str x] σ Q:=LH λ A s v rm S r=>by
 cases r with
 |str _ t hz=>
  rw[K0]at hz
  exact P.len_str (by lia) (K4.val (A:=A) S (.int _ _) q)
theorem aP{i:Int}(q:Q (.rY 0 i) σ):J9 W n (.type "range") [.int i] σ Q:=LH λ A s v rm S r=>by
 cases r with
 |int _ t=>exact call_range_1 (K4.keep S (Q6 _ _) (.rY (IsRange.new ..)) q)
theorem KJ{i j:Int}(q:Q (.rY i j) σ):J9 W n (.type "range") [.int i,.int j] σ Q:=YD λ A s v u rm S r r2=>by
 cases r;cases r2
 exact call_range_2 (K4.keep S (Q6 _ _) (.rY (IsRange.new ..)) q)
theorem pG{a:Addr}{xs:List PV}(e:σ a=some (.list xs))(hz:xs.length<=2^24)(q:∀c,σ c=none->Q (.ref c) (σ.set c (.list xs))):J9 W n (.type "list") [.ref a] σ Q:=LH λ A s v rm S r=>by
 cases r
 refine ee2.e (S.list e) λ vs k hZ=>?_;delta hZ e1 r1
 have l:=r1.length
 exact call_list_seq (hsz:=by rw[H0,K0];lia) a (.inl rfl) e1 rfl rfl λ h' c' kp hD=>K4.made S kp (W7 (D7 _)) hD (.list (r1.V7 (.keeps kp)) (by lia)) q
theorem CF{xs:List PV}(hz:xs.length<=2^24)(q:∀c,σ c=none->Q (.ref c) (σ.set c (.list xs))):J9 W n (.type "list") [.tup xs] σ Q:=LH λ A s v rm S r=>by
 cases r with
 |@tup _ a vs ht r1 _=>
  intros ht o hZ;generalize hZ.1=ho;generalize hZ.2=P4;generalize P4.1=hc;refine A0 P4.2 λ k hd=>?_;try clear P4;try clear hZ
  have l:=r1.length
  exact call_list_seq (hsz:=by rw[H0,K0];lia) a (.inr rfl) ho hc hd λ h' c' kp hD=>K4.made S kp (W7 (D7 _)) hD (.list (r1.V7 (.keeps kp)) (by lia)) q
theorem mN{a:Addr}{xs:List PV}(e:σ a=some (.list xs))(hz:xs.length<=2^24)(q:Q (.tup xs) σ):J9 W n (.type "tuple") [.ref a] σ Q:=LH λ A s v rm S r=>by
 cases r
 refine ee2.e (S.list e) λ vs k hZ=>?_;delta hZ e1 r1
 have l:=r1.length
 refine call_tuple_list (Q3 e1) (λ h' kp=>?_) (by rw[H0,K0];lia)
 have QH:∀b o,s.heap.get? b=some o->(h'.push {cls:=.type "tuple",data:=.seq vs.toArray}).get? b=some o:=λ b o q=>Q6 _ _ b o (kp b o q)
 exact K4.keep (tk:=s.toks) S QH (.tup ⟨_,N6 _ rfl,rfl,0,rfl⟩ (r1.V7 (.keeps QH)) (by lia)) q
theorem Ip{i j:Int}(q:Q (.int (if j>i then j else i)) σ):J9 W n (.builtin "max") [.int i,.int j] σ Q:=YD λ A s v u rm S r r2=>by
 cases r;cases r2
 refine max_two_ints rm.hd λ h' tk kp=>?_
 split
 ·rename_i h;rw[F7 h]at q;exact K4.keep S kp (.int _ _) q
 ·rename_i h;rw[G0 h]at q;exact K4.keep S kp (.int _ _) q
theorem Sl{i:Int}(q:Q (.int (if i<0 then -i else i)) σ):J9 W n (.builtin "abs") [.int i] σ Q:=LH λ A s v rm S r=>by
 cases r
 exact call_abs_int λ u tk=>K4.val (A:=A) S (.int _ _) q
theorem CD{i:Int}(h:i.natAbs<10^7)(q:Q (.str (Str.ofString (toString i))) σ):J9 W n (.type "str") [.int i] σ Q:=LH λ A s v rm S r=>by
 cases r
 refine str_of_int_fit (N:=10^7) (by split<;>lia) (by decide) λ hl=>K4.val (A:=A) S (.str _ _ ?_) q
 have:=len_str_of_int i
 rw[K0]
 lia
theorem Ag{i:Int}(h0:0<=i)(h1:i<10^10)(q:Q (.int i) σ):J9 W n (.type "int") [.str (Str.ofString (toString i))] σ Q:=LH λ A s v rm S r=>by
 cases r
 exact KIN.call_num h0 h1 (K4.val (A:=A) S (.int _ _) q)
theorem PM{x:Str}(q:Q (.str (Txt.strip x)) σ):J9 W n (.builtin "str.strip") [.str x] σ Q:=LH λ A s v rm S r=>by
 cases r with
 |str _ t hz=>
  exact PyProof.Rows.SCL.strip (λ t' k hl=>K4.val (A:=A) S (.str _ _ (by lia)) q) hz
theorem Jr{x y:Str}(q:Q (.int (Txt.find x y)) σ):J9 W n (.builtin "str.find") [.str x,.str y] σ Q:=YD λ A s v u rm S r r2=>by
 cases r;cases r2
 exact PySem.SC.find (K4.val (A:=A) S (.int _ _) q)
theorem cD{x y:Str}(q:Q (.bool (Txt.startswith x y)) σ):J9 W n (.builtin "str.startswith") [.str x,.str y] σ Q:=YD λ A s v u rm S r r2=>by
 cases r;cases r2
 exact PySem.SC.startswith (K4.val (A:=A) S (.bool _) q)
theorem UO{xs:List PV}(q:Q (.int xs.length) σ):J9 W n (.builtin "len") [.tup xs] σ Q:=LH λ A s v rm S r=>by
 cases r with
 |@tup _ a vs ht r1 hz=>
  have l:=r1.length
  refine PyProof.Rows.len_tuple ht (by rw[H0];lia) ?_
  rw[H0,l]
  exact K4.val (A:=A) S (.int _ _) q
theorem sQ{A:Around}{s:Shared}{a:Addr}{xs ys:List PV}{vs us:List Value}{k:Nat}{f:Array Value->Array Value}{v:Value}{pv:PV}(S:SR W σ s.heap)(e:σ a=some (.list xs))(e1:s.heap.get? a=some ⟨.type "list",none,.seq vs.toArray k,#[]⟩)
  (hf:f vs.toArray=us.toArray)(r:bO s.heap ys us)(hz:ys.length<=2^25)(rv:VR s.heap pv v)(q:Q pv (σ.set a (.list ys))):K4 W σ s Q v {s with heap:=s.heap.update a (Obj.mapSeq f)}:=by
 have e2:=get?_update_seq e1 f
 rw[hf]at e2
 have sb:Heap.SameBut a s.heap (s.heap.update a (Obj.mapSeq f)):=cW ..
 have m:nS s.heap (s.heap.update a (Obj.mapSeq f)):=nS.sameBut sb e1 rfl
 have hZ:=S.upd e sb e2 (.list r hz);delta hZ S' t
 exact⟨pv,_,q,rv.V7 m,S',t,⟨_,s.toks,rfl⟩⟩
theorem BD{a:Addr}{xs:List PV}{y:PV}(e:σ a=some (.list xs))(hz:xs.length<=2^24)(q:Q .none (σ.set a (.list (xs++[y])))):J9 W n (.builtin "list.append") [.ref a,y] σ Q:=YD λ A s v u rm S r r2=>by
 cases r
 refine ee2.e (S.list e) λ vs k hZ=>?_;delta hZ e1 r1
 have l:=r1.length
 refine cX slot_list_append ⟨_,e1,rfl⟩ entry_list_append ?_ (args_list_append _ _)
 show wpAny _ _ (updateSeq a (·.push u)>>=λ _=>ret .none) _ _ s
 refine B6 ?_
 refine wpAny_updateSeq e1 rfl (D4 ⟨.none,rfl,?_⟩) (by rw[H0,K0];lia) (by simp[K0];lia)
 exact sQ (A:=A) S e e1 (us:=vs++[u]) (by simp) (r1.append (.cons r2 .nil)) (by simp;lia) .none q
theorem XF{a b:Addr}{xs ys:List PV}(e:σ a=some (.list xs))(eb:σ b=some (.list ys))(hz:xs.length+ys.length<=2^24)(q:Q .none (σ.set a (.list (xs++ys)))):J9 W n (.builtin "list.extend") [.ref a,.ref b] σ Q:=YD λ A s v u rm S r r2=>by
 cases r;cases r2
 refine ee2.e (S.list e) λ vs k hZ=>?_;delta hZ e1 r1
 refine ee2.e (S.list eb) λ us k2 hZ=>?_;delta hZ e2 r2
 have l1:=r1.length
 have l2:=r2.length
 have hs:vs.toArray.size+us.toArray.size<=sizeLine:=by rw[H0,H0,K0];lia
 refine iT PySem.F.slot_list_extend ⟨_,e1,rfl⟩ PySem.F.entry_list_extend (PySem.F.args_list_extend_2 _ _) (AutoSeq1.list_extend_list_list_0 a vs.toArray k b us.toArray k2 (extend_door hs) (A9 (J6 _ _) hs)) ⟨e1,e2,?_⟩
 exact sQ (A:=A) S e e1 (us:=vs++us) (by simp) (r1.append r2) (by simp;lia) .none q
theorem Hl{a:Addr}{xs:List PV}{y:PV}(e:σ a=some (.list (xs++[y])))(hz:xs.length<2^24)(q:Q y (σ.set a (.list xs))):J9 W n (.builtin "list.pop") [.ref a] σ Q:=LH λ A s v rm S r=>by
 cases r
 refine ee2.e (S.list e) λ vs k hZ=>?_;delta hZ e1 r1
 have l:=r1.length
 simp only[B0,H5,List.length_nil]at l
 obtain⟨us,u,rfl⟩:∃us u,vs=us++[u]:=by
  clear e1 r1;rcases List.eq_nil_or_concat vs with h|⟨us,u,h⟩
  ·subst h;simp at l
  ·exact⟨us,u,by simpa using h⟩
 simp only[B0,H5,List.length_nil]at l
 have hr:bO s.heap xs us∧VR s.heap y u:=by
  have t:=r1.take xs.length
  have d:=r1.drop xs.length
  have lu:us.length=xs.length:=by lia
  rw[List.take_left',List.take_left' lu]at t
  ·rw[List.drop_left',List.drop_left' lu]at d
   ·cases d with|cons a _=>exact⟨t,a⟩
   ·rfl
  ·rfl
 have hy:(us++[u]).toArray[(us++[u]).toArray.size - 1]? =some u:=by simp
 refine iT PySem.F.slot_list_pop ⟨_,e1,rfl⟩ PySem.F.entry_list_pop (PySem.F.args_list_pop_1 _) (PySem.MeetsSeq.list_pop_last a _ k u hy (by simp[K0];lia)) ⟨e1,?_⟩
 exact sQ (A:=A) S e e1 (us:=us) (by
  have:=kl_erase us [] u
  simp only[C9]at this
  have z:(us++[u]).toArray.size - 1=us.length:=by simp
  rw[z];exact this) hr.1 (by lia) hr.2 q
theorem XE{a:Addr}{xs:List PV}{j:Int}{y:PV}(e:σ a=some (.list xs))(h0:0<=j)(hi:j.toNat<=xs.length)(hz:xs.length<=2^24)(q:Q .none (σ.set a (.list (xs.take j.toNat++y::xs.drop j.toNat)))):J9 W n (.builtin "list.insert") [.ref a,.int j,y] σ Q:=Xu λ A s v u t rm S r r2 r3=>by
 cases r;cases r2
 refine ee2.e (S.list e) λ vs k hZ=>?_;delta hZ e1 r1
 have l:=r1.length
 refine iT PySem.F.slot_list_insert ⟨_,e1,rfl⟩ PySem.F.entry_list_insert (PySem.F.args_list_insert_3 _ _ _) (PySem.AutoSeq1.list_insert_list_int_val_1 a _ k j _ t (by simp[Builtin.List.listFitsIndex];lia) (by rw[H0,K0];lia)) ⟨e1,?_⟩
 refine sQ (A:=A) S e e1 (us:=vs.take j.toNat++t::vs.drop j.toNat) ?_ ((r1.take _).append (.cons r3 (r1.drop _))) (by rw[B0,Y1,H5,U7,XB,l];exact A9 (O1 hz) (C3 rfl)) .none q
 generalize hj:j.toNat=i
 rw[hj]at hi
 have hm:min i vs.length=i:=by lia
 have hn:¬j<0:=by lia
 simp only[hn,gX,H0,hm]
 apply Array.ext'
 simp[List.extract_eq_take_drop]
 exact hX (by simp)
theorem Bz{x:Str}{i:Int}(h0:0<=i)(h1:i<=2^20)(q:Q (.str (Txt.ljust x i)) σ)(hz:(Txt.ljust x i).length<=2^24):J9 W n (.builtin "str.ljust") [.str x,.int i] σ Q:=YD λ A s v u rm S r r2=>by
 cases r;cases r2
 refine PySem.SC.ljust ?_ λ t' k=>K4.val (A:=A) S (.str _ _ (by rw[K0];lia)) q
 unfold PadOk fitsSsize Builtin.Str.tooLong
 rw[K0]
 simp only[W2,dJ,Bool.or_eq_false_iff,decide_eq_false_iff_not]
 exact⟨⟨by lia,by lia⟩,by lia⟩
theorem zM{h:Heap}:∀{ys:List Str} {vs:List Value},bO h (ys.map .str) vs->StrsAre vs ys
 |[],vs,r=>by cases r;exact .nil
 |y::q,vs,r=>by cases r with|cons a b=>cases a;exact .cons _ _ (zM b)
theorem Jo{x:Str}{a:Addr}{ys:List Str}(e:σ a=some (.list (ys.map .str)))(hz:(ys.map (·.length)).sum+ys.length*x.length<=2^24)(q:Q (.str (Txt.join x ys)) σ)(hj:(Txt.join x ys).length<=2^24):J9 W n (.builtin "str.join") [.str x,.ref a] σ Q:=YD λ A s v u rm S r r2=>by
 cases r;cases r2
 refine ee2.e (S.list e) λ vs k hZ=>?_;delta hZ e1 r1
 exact join_list (Q3 e1) (ys:=ys) (zM r1) (by lia) λ t' k=>K4.val (A:=A) S (.str _ _ (by rw[K0];lia)) q
theorem sP{h:Heap}:∀(xs:List Str) (tk:Nat),(∀x∈xs,x.length<=2^20)->bO h (xs.map .str) (strValues (numbered tk xs))
 |[],_,_=>.nil
 |x::r,tk,hz=>.cons (.str x tk (by have:=hz x (.head _);rw[K0];lia)) (sP r (tk+1) λ y hy=>hz y (.tail _ hy))
set_option tactic.hygienic true in
theorem s_split{x y:Str}(hy:y.length≠0)(hz:x.length<=2^20)(hs:∀p∈Txt.split x y,p.length<=2^20)(hn:(Txt.split x y).length<=2^20)(q:∀c,σ c=none->Q (.ref c) (σ.set c (.list ((Txt.split x y).map .str)))):J9 W n (.builtin "str.split") [.str x,.str y] σ Q:=YD λ A s v u rm S r r2=>by
 cases r;cases r2
 rename_i t w8 u fg
 have Zs:(y.length==0)=false:=by simpa using hy
 unfold Txt.split at hs hn q
 have mk:∀(xs:List Str) (tk Tc:Nat),(∀p∈xs,p.length<=2^20)->xs.length<=2^20->(∀c,σ c=none->Q (.ref c) (σ.set c (.list (xs.map .str))))->K4 W σ s Q (.ref s.heap.objs.size) {s with heap:=s.heap.push {cls:=.type "list",data:=.seq (strValues (numbered tk xs)).toArray},toks:=Tc}:=λ xs tk Tc h1 h2 h3=>
  K4.alloc (o:=.list (xs.map .str)) (ob:=⟨.type "list",none,.seq (strValues (numbered tk xs)).toArray 0,#[]⟩) S (.list (sP xs tk h1) (by simp;lia)) h3
 cases h1:(decide (x.length<y.length)||decide (Builtin.Str.strKind x<Builtin.Str.strKind y))
 ·rw[G0 (by rw[h1];exact C5)]at hs hn q
  cases hf:(Builtin.Str.occurrences x y 0 x.length (x.length+1)).isEmpty
  ·rw[G0 (by rw[hf];exact C5)]at hs hn q
   refine iT gY (typeIs_str _ _ _) sG (qU _ _) (meets_str_split_sep x y t u h1 Zs hf w8 (by rw[K0];lia)) ?_
   have:=mk _ s.toks (s.toks+(Builtin.Str.partsBetween x (Builtin.Str.occurrences x y 0 x.length (x.length+1)) y.length).length) hs hn q
   rw[<-strsFrom_eq]at this
   exact this
  ·rw[F7 hf]at hs hn q
   exact iT gY (typeIs_str _ _ _) sG (qU _ _) (meets_str_split_not_found x y t u h1 Zs hf) (mk [x] t s.toks hs hn q)
 ·rw[F7 h1]at hs hn q
  exact iT gY (typeIs_str _ _ _) sG (qU _ _) (meets_str_split_cannot_occur x y t u h1) (mk [x] t s.toks hs hn q)
end
section
def Ext(σ B9:PH):Prop:=∀a o,σ a=some o->B9 a=some o
theorem Ext.refl(σ:PH):Ext σ σ:=λ _ _ h=>h
theorem Ext.trans{σ B4 H6:PH}(x:Ext σ B4)(y:Ext B4 H6):Ext σ H6:=λ a o h=>y a o (x a o h)
theorem Ext.new{σ:PH}{c:Addr}(h:σ c=none)(o:PO):Ext σ (σ.set c o):=λ a p e=>by
 rw[PH.U0];exact e
 rintro rfl;rw[h]at e;cases e
theorem Ext.upd{C8 σ:PH}{c:Addr}(E:Ext C8 σ)(h:C8 c=none)(o:PO):Ext C8 (σ.set c o):=λ a p e=>by
 rw[PH.U0];exact E a p e
 rintro rfl;rw[h]at e;cases e
theorem Ext.none{σ B9:PH}(E:Ext σ B9){c:Addr}(h:B9 c=none):σ c=none:=by
 cases e:σ c with
 |none=>rfl
 |some o=>rw[E c o e]at h;cases h
theorem PH.VV{σ:PH}{a c:Addr}{o p:PO}(h:σ a=some o)(hc:σ c=none):(σ.set c p) a=some o:=Ext.new hc p a o h
theorem PH.set_set(σ:PH)(a:Addr)(o p:PO):(σ.set a o).set a p=σ.set a p:=by
 funext b;unfold PH.set;split<;>rfl
def aS(σ:PH)(a C:Addr)(fs:List (String×PV)):Prop:=∃dx,σ a=some (.inst C dx)∧σ dx=some (.attrs C fs)
theorem aS.ext{σ B9:PH}(E:Ext σ B9){a C:Addr}{fs:List (String×PV)}(h:aS σ a C fs):aS B9 a C fs:=let⟨dx,h1,h2⟩:=h;⟨dx,E _ _ h1,E _ _ h2⟩
theorem aS.fld{σ:PH}{a C:Addr}{fs:List (String×PV)}(h:aS σ a C fs)(f:String):Mine.Internal.fld σ (.ref a) f=fs.lookup f:=by
 intros h dx hZ;delta hZ h1 h2
 show lC none _ (σ a)=_
 rw[h1]
 show tR none _ (σ dx)=_
 rw[h2]
 exact F7 rfl
theorem aS.H2{σ:PH}{a C m:Addr}{fs:List (String×PV)}(h:aS σ a C fs)(f:String)(e1:fs.lookup f=none)(e2:tb.H2 C f=some m):dY tb σ (.ref a) f=some (.ref m):=by
 intros h dx hZ;delta hZ h1 h2
 show lC _ _ (σ a)=_
 rw[h1]
 show tR none _ (σ dx)=_
 rw[h2]
 exact(F7 rfl).trans ((F7 (by rw[e1];rfl)).trans (by rw[e2];rfl))
theorem N9{σ:PH}{a:Addr}{xs:List PV}(h:σ a=some (.list xs))(f:String):dY tb σ (.ref a) f=(QE.lookup f).map .builtin:=by
 show lC (cF _ _ (σ a)) _ (σ a)=_
 rw[h];rfl
theorem gV{σ:PH}{a:Addr}{es:List (PK×PV)}{n:Nat}(h:σ a=some (.dict es n))(f:String):dY tb σ (.ref a) f=(HI.lookup f).map .builtin:=by
 show lC (cF _ _ (σ a)) _ (σ a)=_
 rw[h];rfl
theorem I0{σ:PH}{a:Addr}{xs:List PV}{k:Nat}{x:PV}(h:σ a=some (.list xs))(e:xs[k]? =some x):gD σ (.ref a) (.int k)=some x:=by
 show cF _ _ (σ a)=_
 rw[h]
 show xP xs k=_
 unfold xP;rw[F7 (G6 k)];exact e
theorem fP{σ:PH}{xs:List PV}{k:Nat}{x:PV}(e:xs[k]? =some x):gD σ (.tup xs) (.int k)=some x:=by
 show xP xs k=_
 unfold xP;rw[F7 (G6 k)];exact e
theorem BH{σ:PH}{a:Addr}{xs:List PV}{x:PV}(h:σ a=some (.list xs)):QO σ x (.ref a)=DB x xs:=by
 show cF _ _ (σ a)=_
 rw[h];rfl
theorem tZ{σ:PH}{a:Addr}{es:List (PK×PV)}{m:Nat}{x:PV}{q:PK}(h:σ a=some (.dict es m))(hk:keyOf x=some q)(hs:U3 q es=true):QO σ x (.ref a)=some (es.lookup q).isSome:=by
 show cF _ _ (σ a)=_
 rw[h]
 show(keyOf x).bind _=_
 rw[hk]
 exact F7 hs
theorem bB{σ:PH}{a:Addr}{es:List (PK×PV)}{m:Nat}{x:PV}{q:PK}(h:σ a=some (.dict es m))(hk:keyOf x=some q):gD σ (.ref a) x=es.lookup q:=by
 show cF _ _ (σ a)=_
 rw[h]
 show(keyOf x).bind _=_
 rw[hk];rfl
theorem GI{α:Type}{x v:α}{K:α->PH->Prop}{σ:PH}(h:some v=some x)(k:K x σ):K v σ:=(H1 h).symm▸k
theorem MJ{α β:Type}{o:Option α}{f:α->Option β}{x:β}{C:Prop}(h:o.bind f=some x)(k:∀v,o=some v->f v=some x->C):C:=let⟨v,a,b⟩:=gI.mp h;k v a b
theorem Th{α β:Type}{o:Option α}{f:α->β}{x:β}{C:Prop}(h:o.map f=some x)(k:∀v,o=some v->some (f v)=some x->C):C:=let⟨v,a,b⟩:=O3.mp h;k v a (C7 some b)
theorem MN{α β:Type}{o:Option α}{f:α->Option β}{v:α}{x:Option β}(h:o=some v)(h':f v=x):o.bind f=x:=by rw[h];exact h'
def XI(σ:PH)(v:PV):Option PV:=nJ (onStr (AR none (λ xs=>some (.int xs.length)) v) (λ s=>some (.int s.length)) v) (λ a=>iI none (λ xs=>some (.int xs.length)) (σ a)) v
def binI(op:Operator)(v w:PV):Option PV:=iJ none (λ a=>iJ none (λ b=>match op with
  |.Add=>some (.int (a+b))
  |.Sub=>some (.int (a - b))
  |.BitOr=>some (.int (Builtin.bitOr a b))
  |.BitAnd=>some (.int (Builtin.bitAnd a b))
  |_=>none) w) v
def Qi(σ:PH)(f:Value)(xs:List PV):Option PV:=if V.blt f (λ s=>decide (s="len"))=true then(xs.head?.bind (XI σ)).filter λ _=>xs.length==1 else none
def XH(o:Option PV):Option PV:=Option.casesOn (motive:=λ _=>Option PV) o none λ v=>PV.casesOn (motive_1:=λ _=>Option PV) v (some v) (λ _=>some v) (λ _=>some v) (λ _=>some v) (λ _=>some v) (λ _=>some v) (λ _ _=>some v) none
def Vw(v:PV):Option PV:=iJ none (λ i=>some (.int (-i))) v
section
variable{W:Wd}{n:Nat}{σ:PH}{ρ:List PV}{K:PV->PH->Prop}{x v w:PV}
theorem Kk(h:XI σ v=some x)(k:K x σ):J9 W n (.builtin "len") [v] σ K:=
 dA (P:=λ v=>J9 W n (.builtin "len") [v] σ K) v h (λ h=>tQ (P:=λ v=>J9 W n (.builtin "len") [v] σ K) v h (λ h=>AQ (P:=λ v=>J9 W n (.builtin "len") [v] σ K) v h no λ xs h=>UO (GI h k)) λ s h=>UP (GI h k))
  λ a h=>dB (P:=λ o=>σ a=o->J9 W n (.builtin "len") [.ref a] σ K) (σ a) h no (λ xs h e=>OF e (GI h k)) rfl
theorem Gf{op:Operator}(h:binI op v w=some x)(k:K x σ):mM op σ K v w:=
 dC (P:=λ v=>mM op σ K v w) v h no λ a h=>dC (P:=λ w=>mM op σ K (.int a) w) w h no λ b h=>by cases op<;>first|exact no h|exact GI (K:=K) h k
theorem Ki{i:Nat}(h:XH ρ[i]? =some x)(k:K x σ):(wp W tb n (.loc i)).v ρ σ K:=by
 show(match ρ[i]? with|some .M7=>False|some v=>K v σ|none=>False)
 generalize ρ[i]? =o at h
 cases o with
 |none=>exact no h
 |some v=>cases v<;>first|exact GI (K:=K) h k|exact no h
theorem Cs{f:Value}{xs:List PV}(h:Qi σ f xs=some x)(k:K x σ):J9 W n f xs σ K:=by
 by_cases c:V.blt f (λ s=>decide (s="len"))=true
 ·have h:=(F7 c).symm.trans h
  refine V.CB (P:=λ f=>J9 W n f xs σ K) f c λ s e=>?_
  rw[D0 e]
  match xs,h with
  |[],h=>exact no h
  |[v],h=>exact Kk (Option.filter_eq_some_iff.mp h).1 k
  |_::_::_,h=>exact absurd (Option.filter_eq_some_iff.mp h).2 C5
 ·exact no ((G0 c).symm.trans h)
end
abbrev dg(σ:PH)(ρ:List PV)(e:PE):Type:={o:Option PV//∀(W:Wd) (n:Nat) (x:PV) (K:PV->PH->Prop),o=some x->K x σ->(wp W tb n e).v ρ σ K}
abbrev Ym(σ:PH)(ρ:List PV)(es:uL):Type:={o:Option (List PV)//∀(W:Wd) (n:Nat) (x:List PV) (K:List PV->PH->Prop),o=some x->K x σ->DN W tb n es ρ σ K}
mutual
noncomputable def EH(σ:PH)(ρ:List PV):(e:PE)->dg σ ρ e
 |.none=>⟨some .none,λ _ _ _ K h k=>GI (K:=K) h k⟩
 |.bool b=>⟨some (.bool b),λ _ _ _ K h k=>GI (K:=K) h k⟩
 |.int i=>⟨some (.int i),λ _ _ _ K h k=>GI (K:=K) h k⟩
 |.str s=>⟨some (.str (Str.ofString s)),λ _ _ _ K h k=>GI (K:=K) h k⟩
 |.absent=>⟨some .none,λ _ _ _ K h k=>GI (K:=K) h k⟩
 |.loc i=>⟨XH ρ[i]?,λ _ _ _ _ h k=>Ki h k⟩
 |.gi _ i=>⟨some (.int i),λ _ _ _ K h k=>GI (K:=K) h k⟩
 |.attr o f=>⟨(EH σ ρ o).1.bind λ v=>fld σ v f,λ W n x _ h k=>MJ h λ v h1 h2=>(EH σ ρ o).2 W n v _ h1 ⟨x,h2,k⟩⟩
 |.sub o i=>⟨(EH σ ρ o).1.bind λ v=>(EH σ ρ i).1.bind λ w=>gD σ v w,λ W n x _ h k=>MJ h λ v h1 h=>MJ h λ w h2 h=>(EH σ ρ o).2 W n v _ h1 ((EH σ ρ i).2 W n w _ h2 ⟨x,h,k⟩)⟩
 |.bin op a b=>⟨(EH σ ρ a).1.bind λ v=>(EH σ ρ b).1.bind λ w=>binI op v w,λ W n _ _ h k=>MJ h λ v h1 h=>MJ h λ w h2 h=>(EH σ ρ a).2 W n v _ h1 ((EH σ ρ b).2 W n w _ h2 (Gf h k))⟩
 |.neg a=>⟨(EH σ ρ a).1.bind Vw,λ W n _ K h k=>MJ h λ v h1 h=>(EH σ ρ a).2 W n v _ h1 (dC (P:=λ v=>match v with|.int i=>K (.int (-i)) σ|_=>False) v h no λ i h=>GI (K:=K) h k)⟩
 |.cmp op a b=>⟨(EH σ ρ a).1.bind λ v=>(EH σ ρ b).1.bind λ w=>(iP σ op v w).map .bool,λ W n _ K h k=>MJ h λ v h1 h=>MJ h λ w h2 h=>Th h λ r h3 h=>(EH σ ρ a).2 W n v _ h1 ((EH σ ρ b).2 W n w _ h2 ⟨r,h3,GI (K:=K) h k⟩)⟩
 |.tup es=>⟨(IZ σ ρ es).1.map .tup,λ W n _ K h k=>Th h λ xs h1 h=>(IZ σ ρ es).2 W n xs _ h1 (GI (K:=K) h k)⟩
 |.call _ f es=>⟨(IZ σ ρ es).1.bind (Qi σ f),λ W n _ _ h k=>MJ h λ xs h1 h=>(IZ σ ρ es).2 W n xs _ h1 (Cs h k)⟩
 |_=>⟨none,λ _ _ _ _ h=>no h⟩
noncomputable def IZ(σ:PH)(ρ:List PV):(es:uL)->Ym σ ρ es
 |.nil=>⟨some [],λ _ _ _ K h k=>GI (K:=K) h k⟩
 |.cons e r=>⟨(EH σ ρ e).1.bind λ x=>(IZ σ ρ r).1.map (x::·),λ W n _ K h k=>MJ h λ x h1 h=>Th h λ xs h2 h=>(EH σ ρ e).2 W n x _ h1 ((IZ σ ρ r).2 W n xs _ h2 (GI (K:=K) h k))⟩
end
def pv(σ:PH)(ρ:List PV)(e:PE):Option PV:=(EH σ ρ e).1
def Bb(σ:PH)(ρ:List PV)(es:uL):Option (List PV):=(IZ σ ρ es).1
theorem X4{W:Wd}{n:Nat}{σ:PH}{ρ:List PV}(e:PE){x:PV}{K:PV->PH->Prop}(h:pv σ ρ e=some x)(k:K x σ):(wp W tb n e).v ρ σ K:=(EH σ ρ e).2 W n x K h k
theorem MH{W:Wd}{n:Nat}{σ:PH}{ρ:List PV}(es:uL){xs:List PV}{K:List PV->PH->Prop}(h:Bb σ ρ es=some xs)(k:K xs σ):DN W tb n es ρ σ K:=(IZ σ ρ es).2 W n xs K h k
abbrev dh(σ:PH)(ρ:List PV)(e:PE):Type:={o:Option Bool//∀(W:Wd) (n:Nat) (b:Bool) (K:Bool->PH->Prop),o=some b->K b σ->(wp W tb n e).t ρ σ K}
theorem Ti{W:Wd}{n:Nat}{σ:PH}{ρ:List PV}{e:PE}{b:Bool}{K:Bool->PH->Prop}(h:(pv σ ρ e).bind (zI σ)=some b)(k:K b σ):(wp W tb n e).v ρ σ λ x B9=>∃b,zI B9 x=some b∧K b B9:=MJ h λ x h1 h2=>X4 e h1 ⟨b,h2,k⟩
def UX(σ:PH)(ρ:List PV):(e:PE)->dh σ ρ e
 |.not a=>⟨(UX σ ρ a).1.map (!·),λ W n _ K h k=>Th h λ t h1 h=>(UX σ ρ a).2 W n t _ h1 (GI (K:=K) h k)⟩
 |.and a b=>⟨(UX σ ρ a).1.bind λ t=>bif t then(UX σ ρ b).1 else some false,λ W n _ K h k=>MJ h λ t h1 h=>(UX σ ρ a).2 W n t _ h1 (by
   cases t
   ·exact GI (K:=K) h k
   ·exact(UX σ ρ b).2 W n _ K h k)⟩
 |.or a b=>⟨(UX σ ρ a).1.bind λ t=>bif t then some true else(UX σ ρ b).1,λ W n _ K h k=>MJ h λ t h1 h=>(UX σ ρ a).2 W n t _ h1 (by
   cases t
   ·exact(UX σ ρ b).2 W n _ K h k
   ·exact GI (K:=K) h k)⟩
 |.cmp op a b=>⟨(pv σ ρ (.cmp op a b)).bind (zI σ),λ W n _ _ h k=>Ti (W:=W) (n:=n) h k⟩
 |.sub o i=>⟨(pv σ ρ (.sub o i)).bind (zI σ),λ W n _ _ h k=>Ti (W:=W) (n:=n) h k⟩
 |.loc i=>⟨(pv σ ρ (.loc i)).bind (zI σ),λ W n _ _ h k=>Ti (W:=W) (n:=n) h k⟩
 |.bool i=>⟨(pv σ ρ (.bool i)).bind (zI σ),λ W n _ _ h k=>Ti (W:=W) (n:=n) h k⟩
 |_=>⟨none,λ _ _ _ _ h=>no h⟩
def pt(σ:PH)(ρ:List PV)(e:PE):Option Bool:=(UX σ ρ e).1
theorem JB{W:Wd}{n:Nat}{σ:PH}{ρ:List PV}(e:PE){b:Bool}{K:Bool->PH->Prop}(h:pt σ ρ e=some b)(k:K b σ):(wp W tb n e).t ρ σ K:=(UX σ ρ e).2 W n b K h k
section
variable{W:Wd}{n:Nat}{σ:PH}{ρ:List PV}{e e':PE}{v w x:PV}{Q:PV->PH->Prop}
theorem D8{f:String}(h:pv σ ρ e=some v)(hf:fld σ v f=some x):pv σ ρ (.attr e f)=some x:=MN h hf
theorem I8(h:pv σ ρ e=some v)(h':pv σ ρ e'=some w)(hs:gD σ v w=some x):pv σ ρ (.sub e e')=some x:=MN h (MN h' hs)
theorem jJ{op:Operator}(h:pv σ ρ e=some v)(h':pv σ ρ e'=some w)(hs:binI op v w=some x):pv σ ρ (.bin op e e')=some x:=MN h (MN h' hs)
theorem WR{op:CmpOp}{b:Bool}(h:pv σ ρ e=some v)(h':pv σ ρ e'=some w)(hs:iP σ op v w=some b):pv σ ρ (.cmp op e e')=some (.bool b):=MN h (MN h' (C7 (Option.map PV.bool) hs))
theorem oU{es:uL}{xs:List PV}(h:Bb σ ρ es=some xs):pv σ ρ (.tup es)=some (.tup xs):=C7 (Option.map PV.tup) h
theorem Hh:Bb σ ρ .nil=some []:=rfl
theorem I9{es:uL}{xs:List PV}(h:pv σ ρ e=some v)(h':Bb σ ρ es=some xs):Bb σ ρ (.cons e es)=some (v::xs):=MN h (C7 (Option.map (v::·)) h')
theorem p1(h:pv σ ρ e=some v):Bb σ ρ (.cons e .nil)=some [v]:=I9 h Hh
theorem V8{q:Nat}(h:pv σ ρ e=some v)(hs:XI σ v=some x):pv σ ρ (.call q (.builtin "len") (.cons e .nil))=some x:=MN (p1 h) ((F7 rfl).trans ((C7 (Option.filter _) hs).trans rfl))
theorem xB{z:Int}(h:pv σ ρ e=some (.int z)):pv σ ρ (.neg e)=some (.int (-z)):=MN h rfl
theorem WQ{i:Nat}(h:ρ[i]? =some v)(hv:XH (some v)=some v):pv σ ρ (.loc i)=some v:=(C7 XH h).trans hv
theorem N3{op:CmpOp}{b:Bool}(h:pv σ ρ e=some v)(h':pv σ ρ e'=some w)(hs:iP σ op v w=some b):pt σ ρ (.cmp op e e')=some b:=MN (WR h h' hs) rfl
theorem MK{b:Bool}(h:pt σ ρ e=some b):pt σ ρ (.not e)=some (!b):=C7 (Option.map (!·)) h
theorem AC{b:Bool}(h:pv σ ρ (.sub e e')=some (.bool b)):pt σ ρ (.sub e e')=some b:=MN h rfl
theorem jP{b b':Bool}(h:pt σ ρ e=some b)(h':pt σ ρ e'=some b'):pt σ ρ (.and e e')=some (b&&b'):=MN h (by clear h;cases b;rfl;exact h')
abbrev C0(k:Nat):PV:=.int k
theorem len_list{a:Addr}{xs:List PV}{k:Nat}(h:σ a=some (.list xs))(hk:xs.length=k):XI σ (.ref a)=some (C0 k):=(C7 (iI none λ xs=>some (PV.int xs.length)) h).trans (C7 (λ k:Nat=>some (C0 k)) hk)
theorem pU{xs:List PV}{k:Nat}(hk:xs.length=k):XI σ (.tup xs)=some (C0 k):=C7 (λ k:Nat=>some (C0 k)) hk
end
end
section
variable{W:Wd}{n:Nat}{σ:PH}{ρ:List PV}{r b b':V0}{K:Fl->List PV->PH->Prop}{Q:PV->PH->Prop}{B:Bool->PH->Prop}{e e' KC:PE}{i:Nat}{x v:PV}
theorem s_end(h:K .next ρ σ):S8 W tb n .nil ρ σ K:=h
theorem K1(h:(wp W tb n e).v ρ σ λ x B4=>S8 W tb n r (ρ.set i x) B4 K):S8 W tb n (.cons (.asg i e) r) ρ σ K:=h
theorem P3(h:pv σ ρ e=some x)(k:S8 W tb n r (ρ.set i x) σ K):S8 W tb n (.cons (.asg i e) r) ρ σ K:=X4 e h k
theorem WB{is:List Nat}{xs:List PV}(h:pv σ ρ e=some (.tup xs))(hl:xs.length=is.length)(k:S8 W tb n r (aN is xs ρ) σ K):S8 W tb n (.cons (.pJ is e) r) ρ σ K:=X4 e h ⟨xs,rfl,hl,k⟩
theorem N4(h:(wp W tb n e).v ρ σ λ _ B4=>S8 W tb n r ρ B4 K):S8 W tb n (.cons (.expr e) r) ρ σ K:=h
theorem W3(h:(wp W tb n e).v ρ σ λ x B4=>K (.ret x) ρ B4):S8 W tb n (.cons (.ret e) r) ρ σ K:=h
theorem X7(h:pv σ ρ e=some x)(k:K (.ret x) ρ σ):S8 W tb n (.cons (.ret e) r) ρ σ K:=X4 e h k
theorem Jq{t:Bool}(h:pt σ ρ e=some t)(k:S8 W tb n (cond t b b') ρ σ λ fl O5 B9=>match fl with
  |.next=>S8 W tb n r O5 B9 K
  |.brk=>K .brk O5 B9
  |.cont=>K .cont O5 B9
  |.ret v=>K (.ret v) O5 B9):S8 W tb n (.cons (.ite e b b') r) ρ σ K:=JB e h (by cases t<;>exact k)
theorem qL(h:pt σ ρ e=some true)(k:S8 W tb n b ρ σ λ fl O5 B9=>match fl with
  |.next=>S8 W tb n r O5 B9 K
  |.brk=>K .brk O5 B9
  |.cont=>K .cont O5 B9
  |.ret v=>K (.ret v) O5 B9):S8 W tb n (.cons (.ite e b b') r) ρ σ K:=JB e h k
theorem oB(h:pt σ ρ e=some false)(k:S8 W tb n r ρ σ K):S8 W tb n (.cons (.ite e b .nil) r) ρ σ K:=JB e h k
theorem Ca(h:(wp W tb n e).t ρ σ λ t B4=>S8 W tb n (cond t b b') ρ B4 λ fl O5 B9=>match fl with
  |.next=>S8 W tb n r O5 B9 K
  |.brk=>K .brk O5 B9
  |.cont=>K .cont O5 B9
  |.ret v=>K (.ret v) O5 B9):S8 W tb n (.cons (.ite e b b') r) ρ σ K:=by
 show(wp W tb n e).t ρ σ λ t B4=>_
 refine Eq.mp (C7 _ ?_) h
 funext t B4
 cases t<;>rfl
theorem Js{f:String}{C a:Addr}{fs:List (String×PV)}(he:pv σ ρ e=some x)(ho:pv σ ρ e'=some (.ref a))(hf:tb.fld C f=true)(hz:fs.length<=100)(O:aS σ a C fs)
  (k:∀dx,σ a=some (.inst C dx)->σ dx=some (.attrs C fs)->S8 W tb n r ρ (σ.set dx (.attrs C (lS f x fs))) K):S8 W tb n (.cons (.Q1 e' f e) r) ρ σ K:=by
 intros O dx hZ;delta hZ h1 h2
 exact X4 e he (X4 e' ho ⟨C,dx,fs,h1,h2,hf,hz,k dx h1 h2⟩)
theorem Jp{a:Addr}{xs:List PV}{j:Nat}(he:pv σ ρ e=some x)(ho:pv σ ρ e'=some (.ref a))(hi:pv σ ρ KC=some (.int j))(h:σ a=some (.list xs))(hj:j<xs.length)(k:S8 W tb n r ρ (σ.set a (.list (xs.set j x))) K):
  S8 W tb n (.cons (.aM e' KC e) r) ρ σ K:=by
 refine X4 e he (X4 e' ho (X4 KC hi ?_))
 show cF _ _ (σ a)
 rw[h]
 exact⟨j,rfl,hj,k⟩
theorem Pk{a:Addr}{es:List (PK×PV)}{m:Nat}{y:PV}{q:PK}(he:pv σ ρ e=some x)(ho:pv σ ρ e'=some (.ref a))(hi:pv σ ρ KC=some y)(h:σ a=some (.dict es m))(hk:keyOf y=some q)(hs:U3 q es=true)(hz:es.length<2^24)
  (k:∀m',S8 W tb n r ρ (σ.set a (.dict (putK q x es) m')) K):S8 W tb n (.cons (.aM e' KC e) r) ρ σ K:=by
 refine X4 e he (X4 e' ho (X4 KC hi ?_))
 show cF _ _ (σ a)
 rw[h]
 exact⟨q,hk,hs,hz,k⟩
theorem P2(h:pv σ ρ e=some x)(k:Q x σ):(wp W tb n e).v ρ σ Q:=X4 e h k
theorem H7{f:Value}{as:uL}{xs:List PV}{q:Nat}(h:Bb σ ρ as=some xs)(k:J9 W n f xs σ Q):(wp W tb n (.call q f as)).v ρ σ Q:=MH as h k
theorem T5{f:Value}{as:uL}{q:Nat}(k:DN W tb n as ρ σ λ xs B4=>J9 W n f xs B4 Q):(wp W tb n (.call q f as)).v ρ σ Q:=k
theorem J1{f:String}{fv:Value}{as:uL}{xs:List PV}(ho:pv σ ρ e=some v)(hm:dY tb σ v f=some fv)(h:Bb σ ρ as=some xs)(k:J9 W n fv (v::xs) σ Q):(wp W tb n (.H2 e f as)).v ρ σ Q:=X4 e ho ⟨fv,hm,MH as h k⟩
theorem T0{f:String}{fv:Value}{as:uL}(ho:pv σ ρ e=some v)(hm:dY tb σ v f=some fv)(k:DN W tb n as ρ σ λ xs B4=>J9 W n fv (v::xs) B4 Q):(wp W tb n (.H2 e f as)).v ρ σ Q:=X4 e ho ⟨fv,hm,k⟩
theorem zG{as:PE}{a:Addr}{xs:List PV}(ho:pv σ ρ e=some (.ref a))(ha:σ a=some (.list xs))(h:pv σ ρ as=some x)(hz:xs.length<=2^24)(k:Q .none (σ.set a (.list (xs++[x])))):(wp W tb n (.H2 e "append" (.cons as .nil))).v ρ σ Q:=
 T0 ho (N9 ha _) (X4 as h (BD ha hz k))
theorem uP{as:uL}{xs:List PV}(h:Bb σ ρ as=some xs)(k:∀c,σ c=none->Q (.ref c) (σ.set c (.list xs))):(wp W tb n (.list as)).v ρ σ Q:=MH as h k
theorem OW(k:∀c,σ c=none->Q (.ref c) (σ.set c (.dict [] 0))):(wp W tb n .dO).v ρ σ Q:=k
theorem O6{op:Operator}(k:(wp W tb n e).v ρ σ λ x B4=>(wp W tb n e').v ρ B4 λ y H6=>mM op H6 Q x y):(wp W tb n (.bin op e e')).v ρ σ Q:=k
theorem rC{op:Operator}{y:PV}(h:pv σ ρ e=some x)(h':pv σ ρ e'=some y)(k:mM op σ Q x y):(wp W tb n (.bin op e e')).v ρ σ Q:=X4 e h (X4 e' h' k)
theorem v_sub(k:(wp W tb n e).v ρ σ λ x B4=>(wp W tb n e').v ρ B4 λ y H6=>∃z,gD H6 x y=some z∧Q z H6):(wp W tb n (.sub e e')).v ρ σ Q:=k
theorem Jb{f:String}(k:(wp W tb n e).v ρ σ λ x B4=>∃z,fld B4 x f=some z∧Q z B4):(wp W tb n (.attr e f)).v ρ σ Q:=k
theorem dK{as:uL}(k:DN W tb n as ρ σ λ xs B4=>Q (.tup xs) B4):(wp W tb n (.tup as)).v ρ σ Q:=k
theorem F9{as:uL}{Q:List PV->PH->Prop}(k:(wp W tb n e).v ρ σ λ x B4=>DN W tb n as ρ B4 λ xs H6=>Q (x::xs) H6):DN W tb n (.cons e as) ρ σ Q:=k
theorem M0{Q:List PV->PH->Prop}(k:Q [] σ):DN W tb n .nil ρ σ Q:=k
theorem DO{op:CmpOp}(k:(wp W tb n e).v ρ σ λ x B4=>(wp W tb n e').v ρ B4 λ y H6=>∃z,iP H6 op x y=some z∧Q (.bool z) H6):(wp W tb n (.cmp op e e')).v ρ σ Q:=k
theorem iB{op:CmpOp}(k:(wp W tb n e).v ρ σ λ x B4=>(wp W tb n e').v ρ B4 λ y H6=>∃z,iP H6 op x y=some z∧B z H6):(wp W tb n (.cmp op e e')).t ρ σ B:=by
 show(wp W tb n e).v ρ σ λ x B4=>(wp W tb n e').v ρ B4 λ y H6=>∃z,iP H6 op x y=some z∧∃b,zI H6 (.bool z)=some b∧B b H6
 refine Eq.mp (C7 _ ?_) k
 funext x B4
 refine C7 _ ?_
 funext y H6
 refine propext ⟨λ⟨z,h1,h2⟩=>⟨z,h1,z,rfl,h2⟩,λ⟨z,h1,b,h2,h3⟩=>⟨z,h1,by cases h2;exact h3⟩⟩
theorem uS{t:Bool}(h:pt σ ρ e=some t)(k:B t σ):(wp W tb n e).t ρ σ B:=JB e h k
theorem VI{t:Bool}(h:pt σ ρ e=some t)(k:(wp W tb n (cond t e' KC)).v ρ σ Q):(wp W tb n (.ite e e' KC)).v ρ σ Q:=JB e h (by cases t<;>exact k)
def Fl.go:Fl->Prop
 |.next=>True
 |.cont=>True
 |_=>False
theorem Dp{V4:PH->Prop}{turn:PV->TS}{x:PV}{xs:List PV}{ρ:List PV}{σ:PH}{K:Fl->List PV->PH->Prop}
  (h:turn x ρ σ λ fl O5 B9=>match fl with
   |.next=>V4 B9∧jV V4 turn xs O5 B9 K
   |.cont=>V4 B9∧jV V4 turn xs O5 B9 K
   |.brk=>K .next O5 B9
   |.ret v=>K (.ret v) O5 B9):jV V4 turn (x::xs) ρ σ K:=h
theorem JV{α:Type}{f:α->PV}{V4:PH->Prop}{turn:PV->TS}{K:Fl->List PV->PH->Prop}(I:List α->List PV->PH->Prop)
  (he:∀l ρ σ,I l ρ σ->V4 σ->V4 σ):∀(l pre:List α) {ρ:List PV} {σ:PH},I pre ρ σ->
  (∀ML x post ρ σ (R:Fl->List PV->PH->Prop),pre++l=ML++x::post->I ML ρ σ->(∀fl O5 B9,fl.go->V4 B9->I (ML++[x]) O5 B9->R fl O5 B9)->turn (f x) ρ σ R)->
  (∀ρ σ,I (pre++l) ρ σ->K .next ρ σ)->jV V4 turn (l.map f) ρ σ K
 |[],pre,ρ,σ,h0,hs,hk=>hk ρ σ (by rw[C9];exact h0)
 |x::l,pre,ρ,σ,h0,hs,hk=>by
  rw[I6]
  refine Dp (hs pre x l ρ σ _ rfl h0 λ fl O5 B9 g s' i'=>?_)
  have Jw:jV V4 turn (l.map f) O5 B9 K:=JV I he l (pre++[x]) i' (λ p y q ρ σ R e=>hs p y q ρ σ R (by rw[<-e];simp)) (λ ρ σ q=>hk ρ σ (by simpa using q))
  cases fl<;>first|exact⟨s',Jw⟩|exact g.elim
theorem eC{α:Type}{l:List α}{f:α->PV}{V4:PH->Prop}{turn:PV->TS}{K:Fl->List PV->PH->Prop}{ρ:List PV}{σ:PH}(I:List α->List PV->PH->Prop)(h0:I [] ρ σ)
  (hs:∀pre x post ρ σ (R:Fl->List PV->PH->Prop),l=pre++x::post->I pre ρ σ->(∀fl O5 B9,fl.go->V4 B9->I (pre++[x]) O5 B9->R fl O5 B9)->turn (f x) ρ σ R)
  (hk:∀ρ σ,I l ρ σ->K .next ρ σ):jV V4 turn (l.map f) ρ σ K:=
 JV I (λ _ _ _ _ h=>h) l [] h0 (λ p x q ρ σ R e=>hs p x q ρ σ R e) hk
theorem BU{α:Type}{f:α->PV}{V4:PH->Prop}{turn:PV->PH->(Option PV->PH->Prop)->Prop}{K:List PV->PH->Prop}(I:List α->List PV->PH->Prop):∀(l pre:List α) {acc:List PV} {σ:PH},I pre acc σ->
  (∀ML x post acc σ (R:Option PV->PH->Prop),pre++l=ML++x::post->I ML acc σ->(∀y B9,V4 B9->I (ML++[x]) (match y with|some y=>acc++[y]|none=>acc) B9->R y B9)->turn (f x) σ R)->
  (∀acc σ,I (pre++l) acc σ->K acc σ)->pD V4 turn (l.map f) acc σ K
 |[],pre,acc,σ,h0,hs,hk=>hk acc σ (by rw[C9];exact h0)
 |x::l,pre,acc,σ,h0,hs,hk=>by
  rw[I6]
  exact hs pre x l acc σ _ rfl h0 λ y B9 s' i'=>⟨s',BU I l (pre++[x]) i' (λ p z q acc σ R e=>hs p z q acc σ R (by rw[<-e];simp)) (λ acc σ q=>hk acc σ (by simpa using q))⟩
theorem comp_map{α:Type}{l:List α}{f:α->PV}{V4:PH->Prop}{turn:PV->PH->(Option PV->PH->Prop)->Prop}{K:List PV->PH->Prop}{σ:PH}(I:List α->List PV->PH->Prop)(h0:I [] [] σ)
  (hs:∀pre x post acc σ (R:Option PV->PH->Prop),l=pre++x::post->I pre acc σ->(∀y B9,V4 B9->I (pre++[x]) (match y with|some y=>acc++[y]|none=>acc) B9->R y B9)->turn (f x) σ R)
  (hk:∀acc σ,I l acc σ->K acc σ):pD V4 turn (l.map f) [] σ K:=
 BU I l [] h0 (λ p x q acc σ R e=>hs p x q acc σ R e) hk
theorem wL{test:T Bool}{body:TS}{K:Fl->List PV->PH->Prop}(I:Nat->List PV->PH->Prop)
  (hs:∀m ρ σ (R:Fl->List PV->PH->Prop),I m ρ σ->(∀fl O5 B9 j,fl.go->j<m->I j O5 B9->R fl O5 B9)->test ρ σ λ b B4=>match b with|false=>K .next ρ B4|true=>body ρ B4 R):∀(f m:Nat) (ρ:List PV) (σ:PH),m<f->I m ρ σ->uO test body f ρ σ K
 |0,m,_,_,h,_=>absurd h (Z8 m)
 |f+1,m,ρ,σ,h,i=>by
  refine hs m ρ σ _ i λ fl O5 B9 j g hj i'=>?_
  have Jw:=wL (K:=K) I hs f j O5 B9 (by lia) i'
  cases fl<;>first|exact Jw|exact g.elim
theorem PL{c:PE}{I:Nat->List PV->PH->Prop}(m:Nat)(h0:I m ρ σ)
  (hs:∀m ρ σ (R:Fl->List PV->PH->Prop),I m ρ σ->(∀fl O5 B9 j,fl.go->j<m->I j O5 B9->R fl O5 B9)->(wp W tb n c).t ρ σ λ t B4=>match t with|false=>S8 W tb n r ρ B4 K|true=>S8 W tb n b ρ B4 R):
  S8 W tb n (.cons (.IA c b) r) ρ σ K:=
 ⟨m+1,wL I (K:=λ fl O5 B9=>match fl with
  |.next=>S8 W tb n r O5 B9 K
  |.brk=>K .brk O5 B9
  |.cont=>K .cont O5 B9
  |.ret v=>K (.ret v) O5 B9) hs (m+1) m ρ σ (K5 m) h0⟩
theorem oC{α:Type}{l:List α}{f:α->PV}(I:List α->List PV->PH->Prop)(h:pv σ ρ e=some v)(hv:mB σ v (l.map f))(h0:I [] ρ σ)
  (hs:∀pre x post ρ B9 (R:Fl->List PV->PH->Prop),l=pre++x::post->I pre ρ B9->(∀fl O5 B9,fl.go->M9 σ v B9->I (pre++[x]) O5 B9->R fl O5 B9)->S8 W tb n b (ρ.set i (f x)) B9 R)
  (hk:∀ρ σ,I l ρ σ->S8 W tb n r ρ σ K):S8 W tb n (.cons (.R6 i e b) r) ρ σ K:=
 X4 e h ⟨_,hv,eC I h0 hs hk⟩
theorem uX(h:(wp W tb n e).v ρ σ λ v B4=>∃xs,mB B4 v xs∧jV (M9 B4 v) (λ x ρ σ R=>S8 W tb n b (ρ.set i x) σ R) xs ρ B4 λ fl O5 B9=>match fl with
  |.next=>S8 W tb n r O5 B9 K
  |.brk=>K .brk O5 B9
  |.cont=>K .cont O5 B9
  |.ret v=>K (.ret v) O5 B9):S8 W tb n (.cons (.R6 i e b) r) ρ σ K:=h
theorem GF{α:Type}{l:List α}{f:α->List PV}{is:List Nat}(I:List α->List PV->PH->Prop)(h:pv σ ρ e=some v)(hv:mB σ v (l.map λ x=>.tup (f x)))(hl:∀x∈l,(f x).length=is.length)(h0:I [] ρ σ)
  (hs:∀pre x post ρ B9 (R:Fl->List PV->PH->Prop),l=pre++x::post->I pre ρ B9->(∀fl O5 B9,fl.go->M9 σ v B9->I (pre++[x]) O5 B9->R fl O5 B9)->S8 W tb n b (aN is (f x) ρ) B9 R)
  (hk:∀ρ σ,I l ρ σ->S8 W tb n r ρ σ K):S8 W tb n (.cons (.rS is e b) r) ρ σ K:=
 X4 e h ⟨_,hv,eC I h0 (λ pre x post ρ σ R e i k=>⟨f x,rfl,hl x (by rw[e];simp),hs pre x post ρ σ R e i k⟩) hk⟩
theorem V6{a:Addr}{xs:List PV}(h:σ a=some (.list xs))(hz:xs.length<=2^24):mB σ (.ref a) xs:=⟨by show cF _ _ (σ a)=_;rw[h];rfl,hz,trivial⟩
theorem rN{xs:List PV}(hz:xs.length<=2^24):mB σ (.tup xs) xs:=⟨rfl,hz,trivial⟩
theorem fH{k:Nat}(hz:k<=2^24):mB σ (.rY 0 k) ((List.range k).map λ j:Nat=>.int j):=by
 refine⟨?_,by simpa using hz,⟨?_,?_,?_⟩⟩
 ·show some ((List.range ((k:Int) - 0).toNat).map λ i:Nat=>PV.int (0+(i:Int)))=_;simp
 ·unfold IO;lia
 ·unfold IO;lia
 ·simpa using hz
theorem QL{j k:Nat}(h:j<=k)(hz:k<=2^24):mB σ (.rY j k) ((List.range (k - j)).map λ i:Nat=>.int ((j+i:Nat):Int)):=by
 have e:((k:Int) - j).toNat=k - j:=Int.toNat_sub k j
 refine⟨?_,by simp;lia,⟨?_,?_,?_⟩⟩
 ·show some ((List.range ((k:Int) - j).toNat).map λ i:Nat=>PV.int (j+(i:Int)))=_;rw[e];simp
 ·unfold IO;lia
 ·unfold IO;lia
 ·rw[e];lia
theorem yW{a:Addr}{es:List (PK×PV)}{m:Nat}{α:Type}{l:List α}{f:α->PV}(h:σ a=some (.dict es m))(hk:es.all (λ p=>!jT p.1)=true)(e:es.map (·.1.pv)=l.map f)(hz:es.length<=2^24):mB σ (.ref a) (l.map f):=
 ⟨by show cF _ _ (σ a)=_;rw[h];exact(F7 hk).trans (C7 some e),by rw[<-e,A8];exact hz,trivial⟩
end
theorem wF(x y:Nat):Builtin.bitOr (x:Int) y=((x|||y:Nat):Int):=by
 have h (z:Nat):¬(0:Int)<=Builtin.bitNot (z:Int):=by unfold Builtin.bitNot;lia
 have k (z:Int):Builtin.bitNot (Builtin.bitNot z)=z:=by unfold Builtin.bitNot;lia
 unfold Builtin.bitOr
 rw[bitAnd_nn (h x) (h y),k,k,k]
 rfl
theorem rV(x y:Nat):Builtin.bitAnd (x:Int) y=((x&&&y:Nat):Int):=bitAnd_pp (G6 x) (G6 y)
theorem JW(x y:Nat):Int.fdiv (x:Int) y=((x/y:Nat):Int):=by rw[nY _ (G6 y)];rfl
def bitsA:Nat->Nat->Nat->List Nat
 |0,_,_=>[]
 |f+1,at_,left=>if left=0 then[]else(if left%2=1 then[at_]else[])++bitsA f (at_+1) (left/2)
def X6(m N:Nat):List Nat:=(List.range N).filter λ k=>m/2^k%2==1
theorem RX{f a l:Nat}:bitsA (f+1) a l=if l=0 then[]else(if l%2=1 then[a]else[])++bitsA f (a+1) (l/2):=rfl
theorem bitsA_0:∀{f a:Nat},bitsA f a 0=[]
 |0,_=>rfl
 |_+1,_=>rfl
theorem KH:∀(N at_ left:Nat),left<2^N->bitsA N at_ left=(X6 left N).map (at_+·)
 |0,a,l,h=>rfl
 |N+1,a,l,h=>by
  have h2:l/2<2^N:=by rw[Nat.pow_succ]at h;lia
  have e:X6 l (N+1)=(if l%2=1 then[0]else[])++(X6 (l/2) N).map (·+1):=by
   unfold X6
   rw[aF,W1,List.filter_map]
   have:(λ k=>l/2^k%2==1)∘Nat.succ=λ k=>l/2/2^k%2==1:=by
    funext k;show(l/2^(k+1)%2==1)=_;rw[Nat.pow_succ,Nat.mul_comm,Nat.div_div_eq_div_mul]
   rw[this]
   by_cases q:l%2=1<;>simp[q]
  rw[RX]
  by_cases z:l=0
  ·clear e h2;subst z
   rw[F7 rfl]
   unfold X6
   simp
  ·rw[G0 z,KH N (a+1) (l/2) h2,e]
   by_cases q:l%2=1<;>simp[q,qH,aE,Nat.add_left_comm]
theorem CA{W:Wd}(P:dQ W){n:Nat}{σ:PH}{m N:Nat}{Q:PV->PH->Prop}(hm:m<2^N)(hN:N<=64)(q:∀c B9,Ext σ B9->σ c=none->B9 c=some (.list ((X6 m N).map C0))->Q (.ref c) B9):J9 W (n+1) (.ref 80) [.int m] σ Q:=by
 refine P.fn WJ 0 rfl rfl (K1 (uP rfl λ c hc=>P3 rfl (P3 (x:=.int m) rfl (PL (I:=λ k ρ B9=>∃(at_ left:Nat) (acc:List Nat),ρ=[.int m,.ref c,.int at_,.int left]∧Ext σ B9∧k=left∧acc.length<=at_∧at_<=N∧left<2^(N - at_)∧B9 c=some (.list (acc.map C0))∧acc++bitsA (N - at_) at_ left=X6 m N) m ?_ ?_))))
 ·refine⟨0,m,[],rfl,Ext.new hc _,rfl,D7 _,K3 _,hm,PH.J7 ..,?_⟩
  rw[Nat.sub_zero,KH N 0 m hm];simp
 ·intro left ρ B9 R hQ;intros hQ at_ hZ;intros hZ _ Q0;intros Q0 acc P4;obtain⟨rfl,E,rfl,hl,ha,hb,ho,he⟩:=P4;intro hR
  refine uS (t:=decide ((0:Int)<left)) rfl ?_
  by_cases z:left=0
  ·clear hR hb;subst z
   refine X7 rfl (q c B9 E hc ?_)
   rw[ho,<-he,bitsA_0,C9]
  ·rw[H3 (by lia)]
   have Qr:N - at_≠0:=by intro e;rw[e]at hb;exact z (Nat.lt_one_iff.mp hb)
   have hs:N - at_=(N - (at_+1))+1:=(Nat.succ_pred_eq_of_ne_zero Qr).symm
   have h2:left/2<2^(N - (at_+1)):=by rw[hs,Nat.pow_succ,Nat.mul_comm]at hb;exact Nat.div_lt_of_lt_mul hb
   rw[hs]at he
   rw[RX,G0 z]at he
   have bg:Builtin.bitAnd (left:Int) 1=((left%2:Nat):Int):=by rw[show(1:Int)=((1:Nat):Int)from rfl,rV,Nat.and_one_is_mod]
   have tail:∀S7 Ao,Ext σ S7->Ao.length<=at_+1->S7 c=some (.list (Ao.map C0))->Ao++bitsA (N - (at_+1)) (at_+1) (left/2)=X6 m N->S8 W tb n (.cons (.asg 3 (.bin .RShift (.loc 3) (.int 1))) (.cons (.asg 2 (.bin .Add (.loc 2) (.int 1))) .nil)) [.int m,.ref c,.int at_,.int left] S7 R:=λ S7 Ao E' b8 LD ax=>by
    refine K1 (rC rfl rfl ⟨by decide,?_⟩)
    rw[show(2:Int)^(1:Int).toNat=((2:Nat):Int)from rfl,JW]
    refine P3 rfl (s_end (hR _ _ _ (left/2) trivial (by lia) ⟨at_+1,left/2,Ao,rfl,E',rfl,b8,Nat.lt_of_sub_ne_zero Qr,h2,LD,ax⟩))
   have ht:pt B9 [.int m,.ref c,.int at_,.int left] (.cmp .Eq (.bin .BitAnd (.loc 3) (.int 1)) (.int 1))=some (decide (left%2=1)):=by
    show some (decide (Builtin.bitAnd (left:Int) 1=1))=_
    rw[bg];exact C7 some (eN.mpr Int.natCast_inj)
   by_cases p:left%2=1
   ·rw[H3 p]at ht
    rw[F7 p]at he
    refine qL ht (N4 (zG rfl ho rfl (by simp;lia) (s_end (tail _ (acc++[at_]) (E.upd hc _) (by simp;lia) ?_ (by rw[<-he];simp)))))
    rw[PH.J7];simp
   ·rw[J8 p]at ht
    rw[G0 p]at he
    exact oB ht (tail _ acc E (by lia) ho he)
def Vz(ρ:List PV):(e:PE)->{o:Option PV//∀(σ:PH) (x:PV),o=some x->pv σ ρ e=some x}
 |.none=>⟨some .none,λ _ _ h=>h⟩
 |.int i=>⟨some (.int i),λ _ _ h=>h⟩
 |.str s=>⟨some (.str (Str.ofString s)),λ _ _ h=>h⟩
 |.loc i=>⟨XH ρ[i]?,λ _ _ h=>h⟩
 |_=>⟨none,λ _ _ h=>no h⟩
def Mt:(b:V0)->{o:Option (String×PE×V0)//∀f e r,o=some (f,e,r)->b=.cons (.Q1 (.loc 0) f e) r}
 |.cons (.Q1 (.loc 0) f e) r=>⟨some (f,e,r),λ _ _ _ h=>by injection h with h;injection h with h1 h;injection h with h2 h3;rw[h1,h2,h3]⟩
 |_=>⟨none,λ _ _ _ h=>no h⟩
def V0.len:V0->Nat
 |.nil=>0
 |.cons _ r=>r.len+1
section
variable{W:Wd}{n:Nat}
def WE(C:Addr)(ρ:List PV):Nat->V0->List (String×PV)->Option (List (String×PV)×V0)
 |0,b,fs=>some (fs,b)
 |k+1,b,fs=>(Mt b).1.bind λ q=>if(tb.fld C q.1&&Nat.ble fs.length 20)=true then(Vz ρ q.2.1).1.bind λ x=>WE C ρ k q.2.2 (lS q.1 x fs)else none
theorem TG{σ:PH}{a:Addr}{o:PO}(h:σ a=some o):σ.set a o=σ:=by
 funext b
 by_cases e:b=a
 ·rw[e,PH.J7,h]
 ·exact PH.U0 _ _ e
theorem tB{C x dx:Addr}{ρ:List PV}{K:Fl->List PV->PH->Prop}(h0:ρ[0]? =some (.ref x))(ne:x≠dx):∀(k:Nat) (b:V0) {fs Ro:List (String×PV)} {b':V0} {σ:PH},WE C ρ k b fs=some (Ro,b')->σ x=some (.inst C dx)->σ dx=some (.attrs C fs)->S8 W tb n b' ρ (σ.set dx (.attrs C Ro)) K->S8 W tb n b ρ σ K
 |0,b,fs,Ro,b',σ,h,h1,h2,k=>by
  have h:(fs,b)=(Ro,b'):=H1 h
  have hZ:=qE h;delta hZ e1 e2
  rwa [<-e1,<-e2,TG h2]at k
 |m+1,b,fs,Ro,b',σ,h,h1,h2,k=>MJ (o:=(Mt b).1) (f:=λ q:String×PE×V0=>if(tb.fld C q.1&&Nat.ble fs.length 20)=true then(Vz ρ q.2.1).1.bind λ x=>WE C ρ m q.2.2 (lS q.1 x fs)else none) h λ q hq h=>by
  by_cases c:(tb.fld C q.1&&Nat.ble fs.length 20)=true
  ·rw[F7 c]at h
   have hZ:=F0.mp c;delta hZ c1 c2
   rw[(Mt b).2 q.1 q.2.1 q.2.2 hq]
   refine MJ h λ v e1 e2=>Js ((Vz ρ q.2.1).2 σ v e1) (WQ h0 rfl) c1 (A9 (C3 c2) (by decide)) ⟨dx,h1,h2⟩ λ cy h3 _=>?_
   have e:dx=cy:=by rw[h1]at h3;injection h3 with h3;injection h3
   rw[<-e]
   exact tB h0 ne m _ e2 (by rw[PH.U0 _ _ ne];exact h1) (PH.J7 ..) (by rw[PH.set_set];exact k)
  ·rw[G0 c]at h;exact no h
theorem tV(P:dQ W)(r:P0)(i j:Nat)(h:rows[i]? =some r){C:Addr}(hi:EU[j]? =some (C,r.a)){σ:PH}{args O5:List PV}{fs:List (String×PV)}{Q:PV->PH->Prop}(hf:∀x,r.frame (.ref x::args)=some (.ref x::O5))
  (hr:∀x,WE C (.ref x::O5) r.b.len r.b []=some (fs,.nil))(q:∀x B9,Ext σ B9->σ x=none->aS B9 x C fs->Q (.ref x) B9):J9 W (n+2) (.ref C) args σ Q:=
 P.cls j hi λ x dx ne hx Nt=>P.Ui r i h (hf x) (tB (C:=C) (dx:=dx) (x:=x) rfl ne _ _ (hr x) (PH.J7 ..) (by rw[PH.U0 _ _ (gZ ne)];exact PH.J7 ..)
  ⟨rfl,q x _ (((Ext.new Nt _).upd hx _).upd Nt _) hx ⟨dx,by rw[PH.U0 _ _ ne];exact PH.J7 ..,PH.J7 ..⟩⟩)
end
theorem U8{σ B9:PH}(E:Ext σ B9){v x:PV}{f:String}(h:fld σ v f=some x):fld B9 v f=some x:=YE (C:=λ v=>fld B9 v f=some x) h λ a D dx fs e e' hl=>by
 show lC none _ (B9 a)=_
 rw[E _ _ e]
 show tR none _ (B9 dx)=_
 rw[E _ _ e']
 exact(F7 rfl).trans hl
theorem XC{σ B9:PH}(E:Ext σ B9){a:Addr}{f:String}{m:Value}(h:dY tb σ (.ref a) f=some m):dY tb B9 (.ref a) f=some m:=
 AS (P:=λ o=>σ a=o->dY tb B9 (.ref a) f=some m) (σ a) h
  (λ h e=>lD (P:=λ o=>σ a=o->dY tb B9 (.ref a) f=some m) (σ a) h (λ h e=>dB (P:=λ o=>σ a=o->dY tb B9 (.ref a) f=some m) (σ a) h no (λ xs h e=>by show lC _ _ (B9 a)=_;rw[E _ _ e];exact h) e)
   (λ es ep h e=>by show lC _ _ (B9 a)=_;rw[E _ _ e];exact h) e)
  (λ C dx h e=>AT (P:=λ o=>σ dx=o->dY tb B9 (.ref a) f=some m) (σ dx) h no (λ D fs h e'=>by show lC _ _ (B9 a)=_;rw[E _ _ e];show tR _ _ (B9 dx)=_;rw[E _ _ e'];exact h) rfl) rfl
structure Rl where
 left:Nat
 right:List Nat
instance u3:Nonempty Rl:=⟨⟨0,[]⟩⟩
structure Gr where
 names:List Str
 tc:Nat
 rules:List Rl
def Gr.off(G:Gr)(i:Nat):Nat:=((G.rules.take i).map λ r=>r.right.length+1).sum
def gP:List Rl->Nat->List Nat
 |[],_=>[]
 |r::q,i=>List.replicate (r.right.length+1) i++gP q (i+1)
def Gr.aR(G:Gr):List Nat:=gP G.rules 0
def Gr.JL(G:Gr):List Nat:=(List.range G.rules.length).map G.off
def Gr.of(G:Gr)(s:Nat):List Nat:=(List.range G.rules.length).filter λ i=>(G.rules[i]?.map (·.left))==some s
structure Gr.It(G:Gr)(item i:Nat)(r:Rl)(d:Nat):Prop where
 rule:G.rules[i]? =some r
 dot:d<=r.right.length
 at_:item=G.off i+d
theorem pR{r:Rl}{q:List Rl}{i:Nat}:gP (r::q) i=List.replicate (r.right.length+1) i++gP q (i+1):=rfl
theorem EK:∀(l:List Rl) (k i d:Nat) (r:Rl),l[i]? =some r->d<=r.right.length->(gP l k)[((l.take i).map λ r=>r.right.length+1).sum+d]? =some (k+i)
 |[],_,_,_,_,h,_=>by simp at h
 |x::q,k,0,d,r,h,hd=>by
  have h:x=r:=by simpa using h
  subst h
  rw[pR]
  rw[I4 (by simp;omega),gL,F7 (by simp;omega)]
  rfl
 |x::q,k,i+1,d,r,h,hd=>by
  rw[pR]
  have:=EK q (k+1) i d r (by simpa using h) hd
  rw[List.take_succ_cons,I6,qX,N2 (by rw[K8,kC];exact J6 ..),K8]
  rw[show x.right.length+1+((q.take i).map λ r=>r.right.length+1).sum+d - (x.right.length+1)=((q.take i).map λ r=>r.right.length+1).sum+d from by rw[kC,W0],this]
  exact C7 some (qW k i)
theorem Gr.It.own{G:Gr}{item i d:Nat}{r:Rl}(h:G.It item i r d):G.aR[item]? =some i:=by
 have:=EK G.rules 0 i d r h.rule h.dot
 rw[h.at_];rw[Y3]at this;exact this
theorem EJ:∀(l:List Rl) (k m:Nat),m<(gP l k).length->∃i r d,l[i]? =some r∧d<=r.right.length∧m=((l.take i).map λ r=>r.right.length+1).sum+d
 |[],_,m,h=>absurd h (Z8 _)
 |x::q,k,m,h=>by
  rw[pR,B0,K8]at h
  by_cases c:m<x.right.length+1
  ·exact⟨0,x,m,rfl,by omega,by simp⟩
  ·refine ee3.e (EJ q (k+1) (m - (x.right.length+1)) (by omega)) λ i r d hZ=>?_;delta hZ h1 h2 h3
   refine⟨i+1,r,d,by simpa using h1,h2,?_⟩
   rw[List.take_succ_cons,I6,qX];omega
theorem Gr.Qm{G:Gr}{m:Nat}(h:m<G.aR.length):∃i r d,G.It m i r d:=let⟨i,r,d,a,b,c⟩:=EJ G.rules 0 m h;⟨i,r,d,a,b,c⟩
def aB(σ:PH)(a i:Nat)(r:Rl):Prop:=∃l:Int,aS σ a 99 [("number",C0 i),("left",C0 r.left),("right",.tup (r.right.map C0)),("level_of",.int l),("action",.none),("line",.int 0),("before",.int 0)]
theorem aB.ext{σ B9:PH}(E:Ext σ B9){a i:Nat}{r:Rl}(h:aB σ a i r):aB B9 a i r:=let⟨l,o⟩:=h;⟨l,o.ext E⟩
theorem aB.number{σ:PH}{a i:Nat}{r:Rl}(h:aB σ a i r):fld σ (.ref a) "number"=some (C0 i):=let⟨l,o⟩:=h;o.fld _
theorem aB.left{σ:PH}{a i:Nat}{r:Rl}(h:aB σ a i r):fld σ (.ref a) "left"=some (C0 r.left):=let⟨l,o⟩:=h;o.fld _
theorem aB.right{σ:PH}{a i:Nat}{r:Rl}(h:aB σ a i r):fld σ (.ref a) "right"=some (.tup (r.right.map C0)):=let⟨l,o⟩:=h;o.fld _
theorem aB.level{σ:PH}{a i:Nat}{r:Rl}(h:aB σ a i r):∃l:Int,fld σ (.ref a) "level_of"=some (.int l):=let⟨l,o⟩:=h;⟨l,o.fld _⟩
abbrev refs(l:List Addr):List PV:=l.map .ref
def Rows(σ:PH)(l:List Addr)(n:Nat)(f:Nat->List PV):Prop:=l.length=n∧∀i a,l[i]? =some a->σ a=some (.list (f i))
theorem Rows.ext{σ B9:PH}(E:Ext σ B9){l:List Addr}{n:Nat}{f:Nat->List PV}(h:Rows σ l n f):Rows B9 l n f:=⟨h.1,λ i a e=>E _ _ (h.2 i a e)⟩
structure pZ(σ:PH)(g:Addr)(G:Gr):Prop where
 names:∃a,fld σ (.ref g) "names"=some (.ref a)∧σ a=some (.list (G.names.map .str))
 tc:fld σ (.ref g) "terminal_count"=some (C0 G.tc)
 rules:∃a ra,fld σ (.ref g) "rules"=some (.ref a)∧σ a=some (.list (refs ra))∧ra.length=G.rules.length∧∀i b r,ra[i]? =some b->G.rules[i]? =some r->aB σ b i r
 levels:∃a m,fld σ (.ref g) "levels"=some (.ref a)∧σ a=some (.dict [] m)
 expect:fld σ (.ref g) "expect"=some .none
 Fx:∃a ra,fld σ (.ref g) "by_left"=some (.ref a)∧σ a=some (.list (refs ra))∧Rows σ ra G.names.length λ s=>(G.of s).map C0
 JL:∃a,fld σ (.ref g) "offsets"=some (.ref a)∧σ a=some (.list (G.JL.map C0))
 aR:∃a,fld σ (.ref g) "owners"=some (.ref a)∧σ a=some (.list (G.aR.map C0))
 H2:∀f m,(f,m)∈[("symbol_count",122),("is_terminal",129),("rules_of",150),("item",157),("rule_of",164),("dot_of",171),("after",178)]->dY tb σ (.ref g) f=some (.ref m)
theorem pZ.ext{σ B9:PH}(E:Ext σ B9){g:Addr}{G:Gr}(h:pZ σ g G):pZ B9 g G where
 names:=let⟨a,x,y⟩:=h.names;⟨a,U8 E x,E _ _ y⟩
 tc:=U8 E h.tc
 rules:=let⟨a,ra,x,y,z,w⟩:=h.rules;⟨a,ra,U8 E x,E _ _ y,z,λ i b r p q=>(w i b r p q).ext E⟩
 levels:=let⟨a,m,x,y⟩:=h.levels;⟨a,m,U8 E x,E _ _ y⟩
 expect:=U8 E h.expect
 Fx:=let⟨a,ra,x,y,z⟩:=h.Fx;⟨a,ra,U8 E x,E _ _ y,z.ext E⟩
 JL:=let⟨a,x,y⟩:=h.JL;⟨a,U8 E x,E _ _ y⟩
 aR:=let⟨a,x,y⟩:=h.aR;⟨a,U8 E x,E _ _ y⟩
 H2:=λ f m e=>XC E (h.H2 f m e)
theorem pZ.rule{σ:PH}{g:Addr}{G:Gr}(h:pZ σ g G){i:Nat}{r:Rl}(e:G.rules[i]? =some r):∃a ra b,fld σ (.ref g) "rules"=some (.ref a)∧σ a=some (.list (refs ra))∧(refs ra)[i]? =some (.ref b)∧aB σ b i r:=by
 refine ee2.e (h.rules) λ a ra hZ=>?_;delta hZ x y z w
 have hi:=(D3.mp e).1
 have hb:ra[i]? =some ra[i]:=C4 (by omega)
 exact⟨a,ra,ra[i],x,y,by rw[H9,hb];rfl,w i _ r hb e⟩
theorem QB{G:Gr}{i:Nat}(hi:i<G.rules.length):(G.JL.map C0)[i]? =some (C0 (G.off i)):=by unfold Gr.JL;rw[H9,H9,bW hi];rfl
theorem MS{G:Gr}{m i d:Nat}{r:Rl}(h:G.It m i r d):(G.aR.map C0)[m]? =some (C0 i):=by rw[H9,h.own];rfl
section
variable{W:Wd}(P:dQ W){n:Nat}{σ:PH}{g:Addr}{G:Gr}(hG:pZ σ g G){Q:PV->PH->Prop}
include P hG
theorem pE(q:Q (C0 G.names.length) σ):J9 W (n+1) (.ref 122) [.ref g] σ Q:=
 let⟨_,x,y⟩:=hG.names
 P.fn dX 3 rfl (ρ:=[.ref g]) rfl (X7 (V8 (D8 rfl x) (len_list y (A8 ..))) q)
theorem jY{s:Nat}(q:Q (.bool (decide (s<G.tc))) σ):J9 W (n+1) (.ref 129) [.ref g,C0 s] σ Q:=
 P.fn eX 4 rfl (ρ:=[.ref g,C0 s]) rfl (X7 (WR rfl (D8 rfl hG.tc) (C7 some (eN.mpr T7))) q)
theorem BY{s:Nat}(hs:s<G.names.length)(hz:G.rules.length<=64)(q:∀c B9,Ext σ B9->σ c=none->B9 c=some (.list ((G.of s).map C0))->Q (.ref c) B9):J9 W (n+1) (.ref 150) [.ref g,C0 s] σ Q:=by
 refine ee2.e (hG.Fx) λ a ra hZ=>?_;obtain⟨x,y,z,w⟩:=hZ
 have hb:ra[s]? =some (ra[s]'(z.symm▸hs)):=C4 _
 refine P.fn iE 5 rfl (ρ:=[.ref g,C0 s]) rfl (W3 (H7 (p1 (I8 (D8 rfl x) rfl (I0 y (by rw[H9,hb];rfl)))) (pG (w s _ hb) ?_ λ c hc=>q c _ (Ext.new hc _) hc (PH.J7 ..))))
 rw[A8]
 exact A9 (H4 ..) (by rw[D9];exact A9 hz (by decide))
theorem NW{i d:Nat}(hi:i<G.rules.length)(q:Q (C0 (G.off i+d)) σ):J9 W (n+1) (.ref 157) [.ref g,C0 i,C0 d] σ Q:=
 let⟨_,x,y⟩:=hG.JL
 P.fn oM 6 rfl (ρ:=[.ref g,C0 i,C0 d]) rfl (X7 (x:=C0 (G.off i+d)) (jJ (I8 (D8 rfl x) rfl (I0 y (QB hi))) rfl rfl) q)
theorem lK{m i d:Nat}{r:Rl}(h:G.It m i r d)(q:Q (C0 i) σ):J9 W (n+1) (.ref 164) [.ref g,C0 m] σ Q:=
 let⟨_,x,y⟩:=hG.aR
 P.fn jI 7 rfl (ρ:=[.ref g,C0 m]) rfl (X7 (I8 (D8 rfl x) rfl (I0 y (MS h))) q)
omit P in
theorem Hi{ρ:List PV}{e:PE}{m i d:Nat}{r:Rl}(h:G.It m i r d)(h0:pv σ ρ (.loc 0)=some (.ref g))(h1:pv σ ρ e=some (C0 m)):pv σ ρ (.bin .Sub e (.sub (.attr (.loc 0) "offsets") (.sub (.attr (.loc 0) "owners") e)))=some (C0 d):=
 let⟨_,x,y⟩:=hG.aR
 let⟨_,x2,y2⟩:=hG.JL
 jJ h1 (I8 (D8 h0 x2) (I8 (D8 h0 x) h1 (I0 y (MS h))) (I0 y2 (QB (D3.mp h.rule).1))) (C7 (λ z=>some (PV.int z)) (by have:=h.at_;omega))
theorem BZ{m i d:Nat}{r:Rl}(h:G.It m i r d)(q:Q (C0 d) σ):J9 W (n+1) (.ref 171) [.ref g,C0 m] σ Q:=
 P.fn kU 8 rfl (ρ:=[.ref g,C0 m]) rfl (X7 (Hi hG h rfl rfl) q)
def OG(r:Rl)(d:Nat):Int:=match r.right[d]? with
 |some s=>s
 |none=> -1
theorem zC{m i d:Nat}{r:Rl}(h:G.It m i r d)(q:Q (.int (OG r d)) σ):J9 W (n+1) (.ref 178) [.ref g,C0 m] σ Q:=by
 refine A0 (hG.aR) λ _ hZ=>?_;delta hZ x y
 refine ee3.e (hG.rule h.rule) λ _ _ _ hZ=>?_;delta hZ x3 y3 z3 hr
 refine P.fn nE 9 rfl (ρ:=[.ref g,C0 m,.M7,.M7]) rfl (P3 (D8 (I8 (D8 rfl x3) (I8 (D8 rfl x) rfl (I0 y (MS h))) (I0 y3 z3)) hr.right) (P3 (x:=C0 d) (Hi hG h rfl rfl) (W3 (VI (t:=decide ((d:Int)<(r.right.length:Int))) (N3 rfl (V8 rfl (pU (A8 ..))) rfl) ?_))))
 unfold OG at q
 cases e:r.right[d]? with
 |none=>
  rw[e]at q
  rw[J8 (Int.not_lt.mpr (Int.ofNat_le.mpr (eU.mp e)))]
  exact P2 rfl q
 |some s=>
  rw[e]at q
  rw[H3 (T7.mpr (D3.mp e).1)]
  exact P2 (x:=C0 s) (I8 rfl rfl (fP (by rw[H9,e];rfl))) q
end
def dT(l:List Nat):List Nat:=l.mergeSort λ a b=>decide (a<=b)
theorem N8(l:List Nat):(dT l).Perm l:=List.mergeSort_perm ..
theorem FY(l:List Nat):(dT l).Pairwise (·<=·):=(List.pairwise_mergeSort (le:=λ a b:Nat=>decide (a<=b)) (λ a b c h1 h2=>by simp only[P8]at*;lia) (λ a b=>by simp only[Bool.or_eq_true,P8];lia) l).imp λ h=>D0 h
theorem FZ{l k:List Nat}(h:k.Perm l)(p:k.Pairwise (·<=·)):k=dT l:=List.Perm.eq_of_pairwise (λ a b _ _ h1 h2=>Nat.le_antisymm h1 h2) p (FY l) (h.trans (N8 l).symm)
theorem intsAre_of{h:Heap}:∀{ns:List Int} {vs:List Value},bO h (ns.map .int) vs->IntsAre vs ns
 |[],vs,r=>by cases r;exact .nil
 |y::q,vs,r=>by cases r with|cons a b=>cases a;exact .cons _ _ (intsAre_of b)
section
variable{W:Wd}{n:Nat}{σ:PH}{Q:PV->PH->Prop}
theorem uU{A:Around}{s:Shared}{v:Value}{ns:List Nat}(S:SR W σ s.heap)(LG:ns.length<64)
  (hc:∀R:List Value->Shared->Prop,(∀vs h' tk,IntsAre vs (ns.map Int.ofNat)->(∀b o,s.heap.get? b=some o->h'.get? b=some o)->R vs {s with heap:=h',toks:=tk})->wpAny W.M A.in1 (collect v) R (λ _ _=>False) s)
  (q:∀c,σ c=none->Q (.ref c) (σ.set c (.list ((dT ns).map C0)))):wpAny W.M A (call (.builtin "sorted") [v]) (K4 W σ s Q) (λ _ _=>False) s:=by
 refine Calls.call_function_entry kind_sorted plain_sorted entry_sorted (args_sorted1 _) ?_
 unfold Builtin.«sorted»
 refine B6 (m:=checkCount "sorted" 1 1 _) (D4 ?_)
 refine B6 (hc _ λ vs h' tk hI kp=>?_)
 have hl:vs.length=ns.length:=by have:=hI.length;simpa using this
 refine B6 (wpAny_newList ?_ (by rw[K0];lia))
 have Le:(h'.push (seqObj "list" vs.toArray 0)).get? h'.objs.size=some (seqObj "list" vs.toArray 0):=N6 _ rfl
 have fr:s.heap.get? h'.objs.size=none:=by
  cases e:s.heap.get? h'.objs.size with
  |none=>rfl
  |some o=>exact absurd (kL (kp _ _ e)) (Nat.lt_irrefl _)
 refine B6 (K2 (cX slot_list_sort ⟨_,Le,rfl⟩ entry_list_sort (list_sort_tree (s:={s with heap:=h'.push (seqObj "list" vs.toArray 0),toks:=tk}) Le hI (by lia) λ out yQ a1 a2 a3=>⟨_,rfl,?_⟩) (args_list_sort _)))
 refine D4 ⟨_,rfl,?_⟩
 refine A0 (sortedHeap_at (out:=out) Le) λ e he=>?_
 clear hI hc hl Le v;obtain⟨k,rfl⟩:∃k:List Nat,yQ=k.map Int.ofNat:=by
  have:∀z∈yQ,∃m:Nat,z=Int.ofNat m:=λ z hz=>by
   refine A0 (D2.mp (a2.mem_iff.mp hz)) λ m hZ=>?_;delta hZ hZ h;exact⟨m,h.symm⟩
  clear a1 a2 a3
  induction yQ with
  |nil=>exact⟨[],rfl⟩
  |cons z r ih=>
   refine A0 (this z (.head _)) λ m hZ=>?_;obtain rfl:=hZ
   refine A0 (ih λ y hy=>this y (.tail _ hy)) λ k hZ=>?_;clear ih;obtain rfl:=hZ
   exact⟨m::k,rfl⟩
 have back:∀l:List Nat,(l.map Int.ofNat).map Int.toNat=l:=λ l=>by rw[G2];exact gK _
 have ek:k=dT ns:=FZ (by have:=a2.map Int.toNat;rwa [back,back]at this) (X3.mp a3|>.imp λ h=>Int.ofNat_le.mp h)
 clear A a2 a3 back;subst ek
 have QH:∀b o,s.heap.get? b=some o->(sortedHeap (h'.push (seqObj "list" vs.toArray 0)) h'.objs.size vs out).get? b=some o:=λ b o e=>by
  have h1:=kp b o e
  have lt:=kL h1
  rw[sortedHeap_old (U6 lt) (by rw[size_push'];exact dI lt)]
  exact Q4 _ h1
 have hv:=Top.IH (h:=sortedHeap (h'.push (seqObj "list" vs.toArray 0)) h'.objs.size vs out) a1
 rw[G2]at hv
 have:out=out.toList.toArray:=by simp
 rw[this]at he
 exact K4.made (o:=.list ((dT ns).map C0)) S QH fr he (.list hv (by rw[A8,(N8 ns).length_eq];lia)) q
theorem dD{a:Addr}{ns:List Nat}(e:σ a=some (.list (ns.map C0)))(LG:ns.length<64)(q:∀c,σ c=none->Q (.ref c) (σ.set c (.list ((dT ns).map C0)))):J9 W n (.builtin "sorted") [.ref a] σ Q:=LH λ A s v rm S r=>by
 cases r
 refine ee2.e (S.list e) λ vs k hZ=>?_;delta hZ e1 r1 z
 have hI:IntsAre vs (ns.map Int.ofNat):=intsAre_of (h:=s.heap) (by rw[G2];exact r1)
 have l:=hI.length
 rw[A8]at l
 exact uU S LG (λ R hR=>wpAny_collect_seq a (.inl rfl) e1 rfl rfl (λ h' kp=>hR _ h' s.toks hI kp) (by rw[H0,K0];lia)) q
theorem HP{ns:List Nat}(LG:ns.length<64)(q:∀c,σ c=none->Q (.ref c) (σ.set c (.list ((dT ns).map C0)))):J9 W n (.builtin "sorted") [.tup (ns.map C0)] σ Q:=LH λ A s v rm S r=>by
 cases r with
 |@tup _ a vs ht r1 hz=>
  have hI:IntsAre vs (ns.map Int.ofNat):=intsAre_of (h:=s.heap) (by rw[G2];exact r1)
  have l:=hI.length
  rw[A8]at l
  intros ht o hZ;generalize hZ.1=ho;generalize hZ.2=P4;generalize P4.1=hc;refine A0 P4.2 λ k hd=>?_;try clear P4;try clear hZ
  exact uU S LG (λ R hR=>wpAny_collect_seq a (.inr rfl) ho hc hd (λ h' kp=>hR _ h' s.toks hI kp) (by rw[H0,K0];lia)) q
theorem fN{W:Wd}(hW:W.Ok){a:Addr}{es:List (PK×PV)}{m:Nat}{ns:List Nat}(e:σ a=some (.dict es m))(hk:es.map (·.1)=ns.map λ k:Nat=>PK.int k)(LG:ns.length<64)(q:∀c,σ c=none->Q (.ref c) (σ.set c (.list ((dT ns).map C0)))):J9 W n (.builtin "sorted") [.ref a] σ Q:=LH λ A s v rm S r=>by
 cases r
 refine A0 (S.dict e) λ ob hZ=>?_;delta hZ e1 r1
 have hs:U3 (.int 0) es=true:=by
  simp only[U3,G3]
  intro p hp
  have:=J2 (f:=(·.1)) hp
  rw[hk]at this
  refine A0 (D2.mp this) λ k hZ=>?_;delta hZ hZ ao
  rw[<-ao];rfl
 refine ee2.e (r1.Pb hs) λ ds kvs hZ=>?_;obtain rfl:=hZ.1;delta hZ hZ kv ko pr nd
 have De:Heap.DictAt W.ik s.heap a kvs m:=⟨_,ds,e1,⟨rfl,rfl,rfl⟩,rfl,ko,pr,nd⟩
 have ek:kvs.map (·.1)=ns.map Int.ofNat:=by
  have:es.map (·.1)=(kvs.map (·.1)).map PK.int:=by
   clear De nd pr ko e1 r1 hk hs e
   induction kv with
   |nil=>rfl
   |cons a b ih=>simp[ih]
  rw[hk]at this
  have h2:=C7 (List.map λ k:PK=>match k with|.int i=>i|_=>0) this
  simp only[G2]at h2
  exact(h2.trans (by simp[qH])).symm
 have l:=C7 List.length ek
 rw[A8,A8]at l
 refine uU S LG (λ R hR=>kdu_collect (kdl_dict (knd:=W.ik) (kvs:=kvs) (ep:=m) (hW.vP S e)) rm.hd De (by rw[K0];lia) λ h' tk acc kp hi=>hR _ h' tk ?_ kp) q
 rw[<-ek]
 delta hi z hz
 have gen:∀(vs:List Value) (ks:List (Int×Value)),vs.length=ks.length->(∀(j:Nat) (v:Value),vs[j]? =some v->∃k,∃x,And (ks[j]? =some (k,x)) (W.ik.is k v=true))->IntsAre vs (ks.map (·.1)):=by
  intro vs
  clear S e ek LG hR hW De hk hs ko kp kv l nd pr q r1 rm tk;induction vs with
  |nil=>intro ks h _;cases ks with|nil=>exact .nil|cons=>cases h
  |cons v vs ih=>
   intro ks h hp
   cases ks with
   |nil=>cases h
   |cons p ks=>
    refine A0 (hp 0 v rfl) λ k hZ=>?_;intros hZ x Q0;delta Q0 e1 e2
    cases e1
    have:=ih ks (by simpa using h) λ j u hj=>hp (j+1) u hj
    refine A0 (Value.isInt_shape e2) λ t hZ=>?_;clear e1 e2 h hp ih m s;obtain rfl:=hZ
    exact .cons k t this
 exact gen acc.toList kvs (by rw[bY,z]) λ j v hj=>hz j v (by rw[<-Array.getElem?_toList];exact hj)
end
def RF{α:Type}(c:Nat->Nat->Bool):KasT α->α
 |.ret a=>a
 |.ask i j k=>RF c (k (c i j))
def Bd(n:Nat){α:Type}(Q:α->Prop):KasT α->Prop
 |.ret a=>Q a
 |.ask i j k=>i<n∧j<n∧∀b,Bd n Q (k b)
section
variable{n:Nat}{α β:Type}
theorem Bd.bind{f:α->KasT β}{Q:β->Prop}:∀{t:KasT α},Bd n (λ a=>Bd n Q (f a)) t->Bd n Q (t.bind f)
 |.ret _,h=>h
 |.ask _ _ k,h=>⟨h.1,h.2,λ b=>Bd.bind (h.3 b)⟩
theorem Bd.mono{Q R:α->Prop}(hq:∀a,Q a->R a):∀{t:KasT α},Bd n Q t->Bd n R t
 |.ret a,h=>hq a h
 |.ask _ _ k,h=>⟨h.1,h.2,λ b=>Bd.mono hq (h.3 b)⟩
theorem Bd.ite{c:Prop}[Decidable c]{Q:α->Prop}{t u:KasT α}(h:Bd n Q t)(h':Bd n Q u):Bd n Q (if c then t else u):=by split;exact h;exact h'
theorem Bd.ev{c:Nat->Nat->Bool}{Q:α->Prop}:∀{t:KasT α},Bd n Q t->Q (RF c t)
 |.ret _,h=>h
 |.ask i j k,h=>Bd.ev (t:=k (c i j)) (h.3 (c i j))
theorem Bd.cg{c d:Nat->Nat->Bool}(e:∀i j,i<n->j<n->c i j=d i j){Q:α->Prop}:∀{t:KasT α},Bd n Q t->RF c t=RF d t
 |.ret _,_=>rfl
 |.ask i j k,h=>(C7 (λ b=>RF c (k b)) (e i j h.1 h.2)).trans (Bd.cg e (h.3 (d i j)))
theorem Bd.wp{c:Nat->Nat->Bool}{cmp:Nat->Nat->(Bool->Shared->Prop)->Shared->Prop}{Q:α->Prop}{G:α->Shared->Prop}{s:Shared}(hc:∀i j C,i<n->j<n->C (c i j) s->cmp i j C s):∀{t:KasT α},Bd n Q t->G (RF c t) s->t.kasWp cmp G s
 |.ret _,_,h=>h
 |.ask i j k,b,h=>hc i j _ b.1 b.2 (Bd.wp hc (b.3 (c i j)) h)
structure Al(n:Nat)(p:Array Nat):Prop where
 z:0<n
 a:∀x∈p,x<n
variable{p:Array Nat}
theorem Al.g(h:Al n p){i:Nat}:p.getD i 0<n:=by
 rw[Array.getD_eq_getD_getElem?]
 cases e:p[i]? with
 |none=>exact h.z
 |some x=>exact h.a x (Array.mem_of_getElem? e)
theorem Al.pm{q:Array Nat}(h:Al n p)(e:q.Perm p):Al n q:=⟨h.z,λ x hx=>h.a x (e.mem_iff.mp hx)⟩
theorem Al.rv(h:Al n p){i j:Nat}:Al n (kas_rev p i j):=h.pm (mirror_perm ..)
theorem OE(h:Al n p):∀f m:Nat,Bd n (λ _=>True) (kas_asc p f m)
 |0,_=>trivial
 |f+1,m=>⟨h.g,h.g,λ _=>.ite trivial (OE h f (m+1))⟩
theorem zD:∀(f:Nat) {p:Array Nat} (m q:Nat),Al n p->Bd n (λ r=>Al n r.1) (kas_desc f p m q)
 |0,_,_,_,h=>h
 |f+1,_,m,q,h=>⟨h.g,h.g,λ _=>.ite (.ite (zD f _ _ h.rv) (zD f _ _ h)) ⟨h.g,h.g,λ _=>.ite h (zD f _ _ h)⟩⟩
theorem RY(h:Al n p)(a b:Nat):Bd n (λ r=>Al n r.2) (kas_tail3 a b p):=.bind ((OE h.rv _ _).mono λ _ _=>h.rv)
theorem RZ(h:Al n p)(a b:Nat):Bd n (λ r=>Al n r.2) (kas_descPart a b p):=.bind ((zD _ _ _ h).mono λ _ h=>.ite (RY h.rv _ _) (RY h _ _))
theorem Ac(h:Al n p)(b:Nat):Bd n (λ r=>Al n r.2) (kas_count b p):=.bind ((OE h _ _).mono λ _ _=>.ite h (.ite ⟨h.g,h.g,λ _=>.ite h (RZ h.rv _ _)⟩ (RZ h _ _)))
theorem CC(h:Al n p)(k:Nat):∀f l r:Nat,Bd n (λ _=>True) (kas_place p k f l r)
 |0,_,_=>trivial
 |f+1,l,r=>.ite trivial ⟨h.g,h.g,λ _=>.ite (CC h k f _ _) (CC h k f _ _)⟩
theorem Ad:∀(f:Nat) {p:Array Nat} (k:Nat),Al n p->Bd n (Al n) (kas_bin f p k)
 |0,_,_,h=>h
 |f+1,_,k,h=>.bind ((CC h k k 0 k).mono λ l _=>Ad f (k+1) (h.pm (bubble_perm ..)))
theorem HO(h:0<n):Bd n (Al n) (kas_sort n):=.bind ((Ac ⟨h,λ x hx=>N1.mp (List.mem_toArray.mp hx)⟩ n).mono λ _ h=>.ite (Ad _ _ h) h)
end
def sF{α:Type}(d:α)(c:Nat->Nat->Bool)(xs:List α):List α:=if xs.length<2 then xs else(RF c (kas_sort xs.length)).toList.map λ i=>xs.getD i d
section
variable{W:Wd}{A:Around}
theorem Bq{α β:Type}{c:Prop}[Decidable c]{g:α}{m:Sem α}{F:α->Sem β}{R:α->Shared->Prop}{P:β->Shared->Prop}{E:Value->Shared->Prop}{s:Shared}(h1:c->R g s)(h2:¬c->wpAny W.M A m R (λ _ _=>False) s)(k:∀x s',R x s'->wpAny W.M A (F x) P E s'):wpAny W.M A (if c then(pure g>>=F)else(m>>=F)) P E s:=by
 by_cases h:c
 ·rw[F7 h];exact B6 (D4 (k _ _ (h1 h)))
 ·rw[G0 h];exact B6 (I7 (h2 h) k λ _ _ e=>e.elim)
theorem VT{s:Shared}{a:Addr}{vs:List Value}{k:Nat}(ho:s.heap.get? a=some (seqObj "list" vs.toArray k))(LG:vs.length<64){c:Nat->Nat->Bool}{P:PySem.Fin->Shared->Prop}
  (hk:2<=vs.length->∃κ,∀h',(∀b o,b≠a->s.heap.get? b=some o->h'.get? b=some o)->(∀R:SortKind->Shared->Prop,R κ {s with heap:=h'}->wpAny W.M A (keyKind' vs.toArray) R (λ _ _=>False) {s with heap:=h'})∧
   ∀i j (C:Bool->Shared->Prop),i<vs.length->j<vs.length->C (c i j) {s with heap:=h'}->wpAny W.M A (keyLt' κ (vs.getD i .none) (vs.getD j .none)) C (λ _ _=>False) {s with heap:=h'})
  (q:∀h' k',(∀b o,b≠a->s.heap.get? b=some o->h'.get? b=some o)->(sF Value.none c vs).length=vs.length->h'.get? a=some (seqObj "list" (sF Value.none c vs).toArray k')->P (.done (.ret .none)) {s with heap:=h'}):
  wpAny W.M A (Builtin.«list.sort» ⟨[.ref a],[]⟩) P (λ _ _=>False) s:=by
 rw[list_sort_plain]
 have ha:a<s.heap.objs.size:=kL ho
 have hsz:vs.toArray.size=vs.length:=by simp
 refine B6 (listItems_at ho rfl ?_)
 refine B6 (listUpdate_at ho rfl ?_ (by rw[hsz,K0];lia) (K3 _))
 obtain⟨e1,a9⟩:∃e1,(s.heap.update a (Obj.mapSeq λ _=>(#[]:Array Value))).get? a=some (seqObj "list" #[] e1):=⟨_,get?_update_seq ho λ _=>#[]⟩
 refine B6 (seqEpoch_at a9 rfl ?_)
 refine B6 (wpAny_newTuple ?_ (by show vs.length<=_;rw[K0];lia))
 refine B6 (wpAny_newList ?_ (K3 _))
 refine K2 ?_
 have Tx:(((s.heap.update a (Obj.mapSeq λ _=>(#[]:Array Value))).push (seqObj "tuple" vs.toArray 0)).push (seqObj "list" #[] 0)).get? a=some (seqObj "list" #[] e1):=Q4 _ (Q4 _ a9)
 have kp:∀b o,b≠a->s.heap.get? b=some o->(((s.heap.update a (Obj.mapSeq λ _=>(#[]:Array Value))).push (seqObj "tuple" vs.toArray 0)).push (seqObj "list" #[] 0)).get? b=some o:=λ b o ne e=>
  Q4 _ (Q4 _ ((Heap.get?_update_ne _ _ _ _ ne).trans e))
 show wpAny W.M A _ P _ {s with heap:=((s.heap.update a (Obj.mapSeq λ _=>(#[]:Array Value))).push (seqObj "tuple" vs.toArray 0)).push (seqObj "list" #[] 0)}
 generalize ((s.heap.update a (Obj.mapSeq λ _=>(#[]:Array Value))).push (seqObj "tuple" vs.toArray 0)).push (seqObj "list" #[] 0)=h1 at Tx kp ⊢
 dsimp only
 refine Bq (R:=λ κ s'=>s'={s with heap:=h1}∧(2<=vs.length->∀i j (C:Bool->Shared->Prop),i<vs.length->j<vs.length->C (c i j) {s with heap:=h1}->wpAny W.M A (keyLt' κ (vs.getD i .none) (vs.getD j .none)) C (λ _ _=>False) {s with heap:=h1})) (λ h2=>⟨rfl,λ h=>absurd (hsz▸h2) (jM.mpr h)⟩) (λ h2=>?_) ?_
 ·refine A0 (hk (by rw[hsz]at h2;exact jM.mp h2)) λ κ hk=>?_
  exact(hk h1 kp).1 _ ⟨rfl,λ _=>(hk h1 kp).2⟩
 intro κ _ hQ;obtain rfl:=hQ.1;delta hQ hQ hc
 refine B6 (I7 (Q:=λ r s'=>s'={s with heap:=h1}∧(arrOf r.2).map (·.2)=(sF Value.none c vs).toArray∧failedOf r.2=none∧(sF Value.none c vs).length=vs.length) ?_ ?_ λ _ _ e=>e)
 ·by_cases h2:vs.toArray.size<2
  ·have h3:vs.length<2:=hsz▸h2
   rw[F7 h2,StateT.run_pure]
   have e:sF Value.none c vs=vs:=F7 h3
   refine D4 ⟨rfl,?_,rfl,C7 _ e⟩
   rw[e]
   show(vs.toArray.zip vs.toArray).map (·.2)=_
   rw[List.zip_toArray,List.map_toArray,List.map_snd_zip (D7 _)]
  ·have h3:¬vs.length<2:=hsz▸h2
   rw[G0 h2]
   have B:=HO (n:=vs.length) (by lia)
   refine kat_run (Q:=λ st s'=>s'={s with heap:=h1}∧(arrOf st).map (·.2)=(sF Value.none c vs).toArray∧failedOf st=none∧(sF Value.none c vs).length=vs.length) rfl (jM.mp h3) LG (λ p Zb s' a1 a2 a3 a4=>?_) (B.wp (G:=λ p s'=>p=RF c (kas_sort vs.length)∧s'={s with heap:=h1}) (hc (jM.mp h3)) ⟨rfl,rfl⟩)
   obtain rfl:=a4.1;obtain rfl:=a4.2;try clear a4
   have e:sF Value.none c vs=(RF c (kas_sort vs.length)).toList.map λ i=>vs.getD i .none:=G0 h3
   exact⟨rfl,(kat_snds rfl a2).trans (C7 List.toArray e.symm),a3,by rw[e,A8,bY,a1]⟩
 intro hQ;obtain⟨⟨⟩,st⟩:=hQ;intro _ TM;obtain rfl:=TM.1;delta TM TM a1 a2 a3
 dsimp only at a1 a2 ⊢
 rw[a1]
 refine B6 (seqEpoch_at Tx rfl ?_)
 obtain⟨e2,Lf⟩:∃e2,(h1.update a (Obj.mapSeq λ _=>(sF Value.none c vs).toArray)).get? a=some (seqObj "list" (sF Value.none c vs).toArray e2):=⟨_,get?_update_seq Tx λ _=>_⟩
 refine B6 (listUpdate_at Tx rfl ?_ (K3 _) (by rw[H0,a3,K0];lia))
 rw[a2]
 simp only[bne_self_eq_false,cS,gX]
 exact D4 (q _ e2 (λ b o ne e=>(Heap.get?_update_ne _ _ _ _ ne).trans (kp b o ne e)) a3 Lf)
end
theorem WC{h:Heap}{α:Type}{d:α}{f:α->PV}{xs:List α}{vs:List Value}{c:Nat->Nat->Bool}(r:bO h (xs.map f) vs):bO h ((sF d c xs).map f) (sF .none c vs):=by
 have l:=r.length
 rw[A8]at l
 unfold sF
 rw[l]
 split
 ·exact r
 ·rename_i h2
  have B:=(HO (n:=xs.length) (by lia)).ev (c:=c)
  have B:=λ x hx=>B.a x (Array.mem_def.mpr hx)
  generalize (RF c (kas_sort xs.length)).toList=is at B ⊢
  rw[G2]
  induction is with
  |nil=>exact .nil
  |cons i is ih=>
   refine .cons ?_ (ih λ x hx=>B x (.tail _ hx))
   have hi:=B i (.head _)
   have e:(xs.map f)[i]? =some (f (xs.getD i d)):=by rw[H9,C2,C4 hi];rfl
   refine A0 (r.get e) λ v hZ=>?_;delta hZ e2 k
   show VR h (f (xs.getD i d)) (vs.getD i .none)
   rw[C2 (l:=vs),e2];exact k
section
variable{W:Wd}{n:Nat}{σ:PH}{Q:PV->PH->Prop}{α:Type}(d:α)(f:α->PV)
theorem SD{a:Addr}{xs:List α}{c:Nat->Nat->Bool}(e:σ a=some (.list (xs.map f)))(LG:xs.length<64)
  (hk:∀(A:Around) (s:Shared) (vs:List Value),bO s.heap (xs.map f) vs->2<=vs.length->∃κ,∀h',(∀b o,s.heap.get? b=some o->h'.get? b=some o)->(∀R:SortKind->Shared->Prop,R κ {s with heap:=h'}->wpAny W.M A (keyKind' vs.toArray) R (λ _ _=>False) {s with heap:=h'})∧
   ∀i j (C:Bool->Shared->Prop),i<vs.length->j<vs.length->C (c i j) {s with heap:=h'}->wpAny W.M A (keyLt' κ (vs.getD i .none) (vs.getD j .none)) C (λ _ _=>False) {s with heap:=h'})
  (q:∀c',σ c'=none->Q (.ref c') (σ.set c' (.list ((sF d c xs).map f)))):J9 W n (.builtin "sorted") [.ref a] σ Q:=LH λ A s v rm S r=>by
 cases r
 refine ee2.e (S.list e) λ vs k hZ=>?_;delta hZ e1 r1 z
 have l:=r1.length
 rw[A8]at l
 refine Calls.call_function_entry kind_sorted plain_sorted entry_sorted (args_sorted1 _) ?_
 unfold Builtin.«sorted»
 refine B6 (m:=checkCount "sorted" 1 1 _) (D4 ?_)
 refine B6 (wpAny_collect_seq a (.inl rfl) e1 rfl rfl (λ h' kp=>?_) (by rw[H0,K0];lia))
 rw[List.toList_toArray]
 refine B6 (wpAny_newList ?_ (by rw[K0];lia))
 have Le:(h'.push (seqObj "list" vs.toArray 0)).get? h'.objs.size=some (seqObj "list" vs.toArray 0):=N6 _ rfl
 have Zp:∀b o,s.heap.get? b=some o->(h'.push (seqObj "list" vs.toArray 0)).get? b=some o:=λ b o e=>Q4 _ (kp b o e)
 have lt:∀b o,s.heap.get? b=some o->b≠h'.objs.size:=λ b o e=>U6 (kL (kp b o e))
 have fr:s.heap.get? h'.objs.size=none:=by
  cases e:s.heap.get? h'.objs.size with
  |none=>rfl
  |some o=>exact absurd rfl (lt _ _ e)
 have hk:=hk A.in1.in1 s vs r1
 refine B6 (K2 (cX slot_list_sort ⟨_,Le,rfl⟩ entry_list_sort (VT (s:={s with heap:=h'.push (seqObj "list" vs.toArray 0)}) Le (by lia)
  (λ h2=>(hk h2).imp λ κ h h2 g=>h h2 λ b o e=>g b o (lt b o e) (Zp b o e)) λ h2 k2 g z2 e2=>⟨_,rfl,?_⟩) (args_list_sort _)))
 refine D4 ⟨_,rfl,?_⟩
 have QH:∀b o,s.heap.get? b=some o->h2.get? b=some o:=λ b o e=>g b o (lt b o e) (Zp b o e)
 exact K4.made (o:=.list ((sF d c xs).map f)) S QH fr e2 (.list (WC (r1.V7 λ b o e _=>QH b o e)) (by rw[<-(WC (d:=d) (c:=c) r1).length,z2];lia)) q
end
abbrev sD:Str:=Str.ofString ""
abbrev tD:Str×Int:=(sD,0)
abbrev kD(p:Str×Int):PV:=.tup [.str p.1,.int p.2]
def Tm(a b:Str):Bool:=decide (a.cps.toList<b.cps.toList)
def Hn(a b:Str×Int):Bool:=if a.1=b.1 then decide (a.2<b.2)else Tm a.1 b.1
abbrev Ph(xs:List Str):List Str:=sF sD (λ i j=>Tm (xs.getD i sD) (xs.getD j sD)) xs
abbrev oA(xs:List (Str×Int)):List (Str×Int):=sF tD (λ i j=>Hn (xs.getD i tD) (xs.getD j tD)) xs
theorem Qk{h:Heap}:∀{ps:List (Str×Int)} {vs:List Value},bO h (ps.map kD) vs->∃fs,KatTups h vs fs∧fs.length=vs.length∧∀v∈fs,∃x t,v=.str x t
 |[],_,r=>by cases r;exact⟨[],.nil,rfl,λ _ h=>(nomatch h)⟩
 |p::ps,_,r=>by
  cases r with
  |cons r1 r2=>
   refine A0 (Qk r2) λ fs hZ=>?_;delta hZ h1 h2 h3
   cases r1 with
   |tup ht r1 _=>
    intros ht o hZ;generalize hZ.1=ho;generalize hZ.2=P4;generalize P4.1=hc;refine A0 P4.2 λ k hd=>?_;try clear P4;try clear hZ
    cases r1 with
    |cons ra _=>
     cases ra with
     |str x t _=>exact⟨.str p.1 t::fs,.cons ho hc hd rfl h1,C7 Nat.succ h2,λ v hv=>(F8.mp hv).elim (λ e=>⟨_,_,e⟩) (h3 v)⟩
section
variable{W:Wd}{n:Nat}{σ:PH}{Q:PV->PH->Prop}
theorem yM{h:Heap}{α:Type}{d:α}{f:α->PV}{xs:List α}{vs:List Value}(r:bO h (xs.map f) vs){i:Nat}(hi:i<vs.length):VR h (f (xs.getD i d)) (vs.getD i .none):=by
 have l:=r.length
 rw[A8]at l
 rw[l]at hi
 refine A0 (r.get (i:=i) (x:=f (xs.getD i d)) (by rw[H9,C2,C4 hi];rfl)) λ v hZ=>?_;delta hZ e2 k
 rw[C2 (l:=vs),e2];exact k
theorem SB{a:Addr}{xs:List Str}(e:σ a=some (.list (xs.map .str)))(LG:xs.length<64)(q:∀c,σ c=none->Q (.ref c) (σ.set c (.list ((Ph xs).map .str)))):J9 W n (.builtin "sorted") [.ref a] σ Q:=
 SD sD .str e LG (λ A s vs r h2=>⟨oneType',λ h' kp=>⟨λ R hR=>kas_kind h2 (T:=.type "str") (λ v hv=>by
  refine A0 (r.mem hv) λ x hZ=>?_;delta hZ hx r
  refine A0 (D2.mp hx) λ y hZ=>?_;clear hv hx;obtain rfl:=hZ.2;try clear hZ
  cases r;exact Looks.of_pure rfl) rfl rfl hR,λ i j C hi hj hC=>by
  have ri:=yM (d:=sD) r hi
  have rj:=yM (d:=sD) r hj
  revert hC
  generalize xs.getD i sD=x at ri ⊢
  generalize xs.getD j sD=y at rj ⊢
  intro hC
  refine ri.qC (P:=λ v=>wpAny W.M A (keyLt' oneType' v _) _ _ _) λ t _=>rj.qC (P:=λ v=>wpAny W.M A (keyLt' oneType' _ v) _ _ _) λ u _=>kas_lt_str hC⟩⟩) q
theorem pX{a:Addr}{xs:List (Str×Int)}(e:σ a=some (.list (xs.map kD)))(LG:xs.length<64)(q:∀c,σ c=none->Q (.ref c) (σ.set c (.list ((oA xs).map kD)))):J9 W n (.builtin "sorted") [.ref a] σ Q:=
 SD tD kD e LG (λ A s vs r h2=>⟨tuples' true,λ h' kp=>⟨λ R hR=>by
  refine A0 (Qk (r.V7 λ b o e _=>kp b o e)) λ fs hZ=>?_;delta hZ k1 k2 k3
  exact kat_kind (T:=.type "str") k1 (by lia) (λ v hv=>by refine ee2.e (k3 v hv) λ x t hZ=>?_;clear h2 LG hv k1 k2 k3;obtain rfl:=hZ;exact Looks.of_pure rfl) rfl hR,λ i j C hi hj hC=>by
  have r:=r.V7 (h':=h') λ b o e _=>kp b o e
  have ri:=yM (d:=tD) r hi
  have rj:=yM (d:=tD) r hj
  revert hC
  generalize xs.getD i tD=x at ri ⊢
  generalize xs.getD j tD=y at rj ⊢
  intro hC
  refine ri.xM (P:=λ v=>wpAny W.M A (keyLt' (tuples' true) v _) _ _ _) λ b us hu ru _=>rj.xM (P:=λ v=>wpAny W.M A (keyLt' (tuples' true) _ v) _ _ _) λ b' ef x9 s5 _=>?_
  clear e h2 LG hi hj kp r ri rj;cases ru with|cons r1 r2=>cases r2 with|cons r2 r3=>cases r3;cases r1;cases r2;cases s5 with|cons r1 r2=>cases r2 with|cons r2 r3=>
   cases r3;cases r1;cases r2
   intros hu o hZ;generalize hZ.1=ho;generalize hZ.2=P4;generalize P4.1=hc;refine A0 P4.2 λ k hd=>?_;try clear P4;try clear hZ
   intros x9 o' hZ;generalize hZ.1=LD;generalize hZ.2=P4;generalize P4.1=VB;refine A0 P4.2 λ k' VA=>?_;try clear P4;try clear hZ
   refine kat_lt ho hd LD VA (kat_cons (wpAny_eqBool_str (kat_go (λ he=>kat_yes (kat_cons (wpAny_eqBool_int (kat_go (λ d6=>kat_yes (kat_nil ?_)) λ d6=>kat_no (kat_one _ _ (lt_int ?_)))))) λ he=>kat_no (oneLt_str ?_))))
   ·unfold Hn at hC;rw[F7 (D0 he),eq_of_beq d6]at hC
    rw[J8 (Int.lt_irrefl _)]at hC
    exact hC
   ·unfold Hn at hC;rw[F7 (D0 he)]at hC
    exact hC
   ·unfold Hn at hC;rw[G0 (K6 he)]at hC
    exact hC⟩⟩) q
end
def perms(n:Nat):Nat->List (List Nat)
 |0=>[[]]
 |k+1=>(perms n k).flatMap λ l=>((List.range n).filter λ x=>!l.contains x).map (·::l)
theorem EI{n:Nat}:∀{l:List Nat},l.Nodup->(∀x∈l,x<n)->l∈perms n l.length
 |[],_,_=>.head _
 |x::l,nd,h=>P6.mpr ⟨l,EI (N7.mp nd).2 λ y hy=>h y (.tail _ hy),D2.mpr ⟨x,J5.mpr ⟨N1.mpr (h x (.head _)),by
  rw[dJ,<-Bool.not_eq_true,jD];exact(N7.mp nd).1⟩,rfl⟩⟩
theorem WL:∀n<6,∀r∈perms n n,(RF (λ i j=>decide (r.getD i 0<r.getD j 0)) (kas_sort n)).toList.map (r.getD · 0)=List.range n:=by decide+kernel
theorem NR{α:Type}{p q:α->Bool}(h:∀x,p x=true->q x=true){a:α}(hq:q a=true)(hp:p a=false):∀{xs:List α},a∈xs->xs.countP p<xs.countP q
 |x::l,m=>by
  rw[List.countP_cons,List.countP_cons]
  have m1:=List.countP_mono_left (l:=l) λ x _=>h x
  rcases F8.mp m with rfl|m
  ·rw[hq,hp];exact hM m1
  ·have:=NR h hq hp m
   cases e:p x with
   |true=>rw[h x e];exact Nat.succ_lt_succ this
   |false=>exact D1 this (J6 _ _)
structure Ob{α:Type}(lt:α->α->Bool):Prop where
 ir:∀a,lt a a=false
 tr:∀a b c,lt a b=true->lt b c=true->lt a c=true
 Vh:∀a b,a≠b->lt a b=true∨lt b a=true
section
variable{α:Type}{lt:α->α->Bool}(T:Ob lt){d:α}
include T
theorem Ob.PT{xs:List α}{a b:α}(ha:a∈xs)(h:lt a b=true):xs.countP (lt · a)<xs.countP (lt · b):=NR (p:=(lt · a)) (q:=(lt · b)) (λ x hx=>T.tr _ _ _ hx h) h (T.ir a) ha
theorem Ob.Ha{xs:List α}{a b:α}(ha:a∈xs)(hb:b∈xs)(h:xs.countP (lt · a)=xs.countP (lt · b)):a=b:=Classical.byContradiction λ ne=>by
 rcases T.Vh a b ne with e|e
 ·exact absurd h (U6 (T.PT ha e))
 ·exact absurd h.symm (U6 (T.PT hb e))
theorem Ob.dT{xs:List α}(nd:xs.Nodup)(h2:2<=xs.length)(h5:xs.length<=5):(sF d (λ i j=>lt (xs.getD i d) (xs.getD j d)) xs).map (λ e=>xs.countP (lt · e))=List.range xs.length∧∀e∈sF d (λ i j=>lt (xs.getD i d) (xs.getD j d)) xs,e∈xs:=by
 have m:=EI (n:=xs.length) (l:=xs.map λ e=>xs.countP (lt · e)) (X3.mpr (bJ (λ ha hb ne e=>ne (T.Ha ha hb e)) nd)) λ x hx=>by
  refine A0 (D2.mp hx) λ e hZ=>?_;generalize hZ.1=he;clear hx;obtain rfl:=hZ.2;try clear hZ
  have:=NR (p:=(lt · e)) (q:=λ _=>true) (λ _ _=>rfl) rfl (T.ir e) he
  rwa [List.countP_true]at this
 rw[A8]at m
 have ok:=WL xs.length (hM h5) _ m
 have B:=HO (n:=xs.length) (D1 (by decide) h2)
 have at_:∀i,i<xs.length->xs.getD i d∈xs∧(xs.map λ e=>xs.countP (lt · e)).getD i 0=xs.countP (lt · (xs.getD i d)):=λ i hi=>by
  rw[C2,C2,H9,C4 hi]
  exact⟨sJ hi,rfl⟩
 have e:RF (λ i j=>lt (xs.getD i d) (xs.getD j d)) (kas_sort xs.length)=RF (λ i j=>decide ((xs.map λ e=>xs.countP (lt · e)).getD i 0<(xs.map λ e=>xs.countP (lt · e)).getD j 0)) (kas_sort xs.length):=B.cg λ i j hi hj=>by
  have hZ:=at_ i hi;delta hZ mi ei
  have hZ:=at_ j hj;delta hZ mj ej
  rw[ei,ej]
  cases h:lt (xs.getD i d) (xs.getD j d)with
  |true=>exact(H3 (T.PT mi h)).symm
  |false=>
   refine(J8 λ c=>?_).symm
   rcases T.Vh _ _ (λ e=>Nat.lt_irrefl _ (by rw[e]at c;exact c):xs.getD i d≠xs.getD j d)with e|e
   ·rw[h]at e;cases e
   ·exact Nat.lt_asymm c (T.PT mj e)
 have al:=(B.ev (c:=λ i j=>lt (xs.getD i d) (xs.getD j d))).a
 rw[<-e]at ok
 unfold sF
 rw[G0 (by lia),G2]
 generalize RF (λ i j=>lt (xs.getD i d) (xs.getD j d)) (kas_sort xs.length)=p at ok al
 refine⟨(P1 λ i hi=>?_).trans ok,λ x hx=>?_⟩
 ·exact(at_ i (al i (Array.mem_def.mpr hi))).2.symm
 ·refine A0 (D2.mp hx) λ i hZ=>?_;generalize hZ.1=hi;clear hx;obtain rfl:=hZ.2;try clear hZ
  exact(at_ i (al i (Array.mem_def.mpr hi))).1
theorem Ob.perm{xs ys:List α}(p:xs.Perm ys)(nd:xs.Nodup)(h5:xs.length<=5):sF d (λ i j=>lt (xs.getD i d) (xs.getD j d)) xs=sF d (λ i j=>lt (ys.getD i d) (ys.getD j d)) ys:=by
 have l:=p.length_eq
 by_cases h2:2<=xs.length
 ·have hZ:=T.dT (d:=d) nd h2 h5;delta hZ a1 a2
  have hZ:=T.dT (d:=d) (p.nodup_iff.mp nd) (l▸h2) (l▸h5);delta hZ b1 b2
  rw[show(λ e=>ys.countP (lt · e))=λ e=>xs.countP (lt · e)from funext λ e=>(p.countP_eq _).symm,<-l,<-a1]at b1
  have inj:∀{us vs:List α},(∀e∈us,e∈xs)->(∀e∈vs,e∈xs)->vs.map (λ e=>xs.countP (lt · e))=us.map (λ e=>xs.countP (lt · e))->us=vs:=λ{us}=>by
   induction us with
   |nil=>intro vs _ _ h;exact(mR.mp h).symm
   |cons u us ih=>
    intro vs hu hv h
    cases vs with
    |nil=>cases h
    |cons v vs=>
     injection h with h1 h2
     rw[T.Ha (hv v (.head _)) (hu u (.head _)) h1,ih (λ e he=>hu e (.tail _ he)) (λ e he=>hv e (.tail _ he)) h2]
  exact inj a2 (λ e he=>p.mem_iff.mpr (b2 e he)) b1
 ·have e:xs=ys:=by
   clear nd h5
   cases xs with
   |nil=>exact(kK l.symm).symm
   |cons x r=>cases r with
    |nil=>exact(List.perm_singleton.mp p.symm).symm
    |cons y r=>exact absurd (Z9 2 _) h2
  rw[e]
end
theorem Pa:Ob Hn where
 ir a:=by unfold Hn;rw[F7 rfl];exact J8 (Int.lt_irrefl _)
 tr a b c h1 h2:=by
  unfold Hn Tm at*
  by_cases e1:a.1=b.1
  ·rw[F7 e1]at h1
   by_cases e2:b.1=c.1
   ·rw[F7 e2]at h2;rw[F7 (e1.trans e2)]
    exact H3 (Int.lt_trans (D0 h1) (D0 h2))
   ·rw[G0 e2]at h2;rw[G0 (e1▸e2),e1];exact h2
  ·rw[G0 e1]at h1
   by_cases e2:b.1=c.1
   ·rw[G0 (e2▸e1),<-e2];exact h1
   ·rw[G0 e2]at h2
    have h:=List.lt_trans (D0 h1) (D0 h2)
    rw[G0 λ e=>List.lt_irrefl _ (by rw[e]at h;exact h)]
    exact H3 h
 Vh a b ne:=by
  unfold Hn Tm
  by_cases e:a.1=b.1
  ·rw[F7 e,F7 e.symm]
   rcases Int.lt_or_gt_of_ne (λ h=>ne (kG e h))with h|h
   ·exact .inl (H3 h)
   ·exact .inr (H3 h)
  ·rw[G0 e,G0 (gZ e)]
   by_cases h:a.1.cps.toList<b.1.cps.toList
   ·exact .inl (H3 h)
   ·refine .inr (H3 (Classical.byContradiction λ h'=>e ?_))
    have:=Array.toList_inj.mp (List.le_antisymm (List.not_lt.mp h') (List.not_lt.mp h))
    cases h1:a.1;cases h2:b.1
    rw[h1,h2]at this;exact C7 _ this
theorem LX{xs ys:List (Str×Int)}(p:xs.Perm ys)(nd:xs.Nodup)(h5:xs.length<=5):oA xs=oA ys:=Pa.perm p nd h5
section
variable{W:Wd}(hW:W.Ok){n:Nat}{σ:PH}{Q:PV->PH->Prop}
include hW
theorem RN{a:Addr}{es:List (PK×PV)}{m:Nat}{i:Int}{y:PV}(e:σ a=some (.dict es m))(hs:U3 (.int i) es=true)(q:Q ((es.lookup (.int i)).getD y) σ):J9 W n (.builtin "dict.get") [.ref a,.int i,y] σ Q:=Xu λ A s v u t rm S r r2 r3=>by
 cases r
 cases r2 with
 |int _ ti=>
  refine A0 (S.dict e) λ ob hZ=>?_;delta hZ e1 r1
  refine ee2.e (r1.Pb hs) λ ds kvs hZ=>?_;clear hs r1;obtain rfl:=hZ.1;delta hZ hZ kv b c d
  have hd:=hW.vP S e
  have hm:=(lI (W:=W) e1 b c d).mapOf
  refine call_meetsIn jA ⟨_,e1,rfl⟩ PySem.F.entry_dict_get (PySem.F.args_dict_get_3 _ _ _) (meets_dict_get_default W.ik a (EV i ti) hd t) ⟨_,hm,?_⟩
  clear b c d e e1 hW hd hm m ti;rcases fU (λ _ _ z=>by injection z) kv i with⟨z,z'⟩|⟨y',u,z,z2,r⟩
  ·rw[z]at q;rw[z'];exact K4.val (A:=A) S r3 q
  ·rw[z]at q;rw[z2];exact K4.val (A:=A) S r q
theorem KD{a:Addr}{m:Nat}{i:Int}(e:σ a=some (.dict [] m))(q:Q .none σ):J9 W n (.builtin "dict.get") [.ref a,.int i] σ Q:=YD λ A s v u rm S r r2=>by
 cases r
 cases r2 with
 |int _ ti=>
  refine A0 (S.dict e) λ ob hZ=>?_;delta hZ e1 r1
  refine ee2.e (r1.Pb (i:=i) rfl) λ ds kvs hZ=>?_;clear r1;obtain rfl:=hZ.1;delta hZ hZ kv b c d
  have hd:=hW.vP S e
  have hm:=(lI (W:=W) e1 b c d).mapOf
  clear b c d e hW;cases kv
  exact call_meetsIn jA ⟨_,e1,rfl⟩ PySem.F.entry_dict_get (PySem.F.args_dict_get_2 _ _) (meets_dict_get W.ik a (EV i ti) hd) ⟨_,hm,K4.val (A:=A) S .none q⟩
theorem Ew{a:Addr}{es:List (PK×PV)}{m:Nat}{l:List Int}{y:PV}(e:σ a=some (.dict es m))(hs:U3 (.bM l) es=true)(q:Q ((es.lookup (.bM l)).getD y) σ):J9 W n (.builtin "dict.get") [.ref a,.tup (l.map .int),y] σ Q:=Xu λ A s v u t rm S r r2 r3=>by
 cases r
 have kr:=yU (W:=W) r2 (k:=.bM l) (by show(intsOf _).map PK.bM=_;rw[rP];rfl)
 clear r2;cases kr with
 |bM tk tz=>
  refine A0 (S.dict e) λ ob hZ=>?_;delta hZ e1 r1
  refine ee2.e (r1.toT hs) λ ds xs hZ=>?_;clear r1;obtain rfl:=hZ.1;delta hZ hZ kt c d
  have hd:=hW.vP S e
  have hu:=rm.cLine
  refine call_meetsIn jA ⟨_,e1,rfl⟩ PySem.F.entry_dict_get (PySem.F.args_dict_get_3 _ _ _) (meetsH_dict_get_default W.tk a _ hd t) ⟨iS (by lia),l,xs,tk,pC e1 kt c d,?_⟩
  rcases mG kt l with⟨z,z'⟩|⟨y',a2,u,z,z2,r⟩
  ·rw[z]at q;rw[z'];exact K4.val (A:=A) S r3 q
  ·rw[z]at q;rw[z2];exact K4.val (A:=A) S r q
omit hW
theorem qT(xs:List Str):(xs.map PV.str).all eZ=true:=by rw[cR];exact G3.mpr λ _ _=>rfl
theorem Co{a:Addr}{xs:List Str}{x:Str}{j:Nat}(e:σ a=some (.list (xs.map .str)))(hj:xs[j]? =some x)(z8:∀m:Nat,m<j->xs[m]? ≠some x)(hz:xs.length<=2^20)(q:Q (C0 j) σ):J9 W n (.builtin "list.index") [.ref a,.str x] σ Q:=YD λ A s v u rm S r r2=>by
 cases r
 refine ee2.e (S.list e) λ vs k hZ=>?_;delta hZ e1 r1
 have l:=r1.length
 rw[A8]at l
 have lt:=(D3.mp hj).1
 have af:=qT xs
 have Tt:A.in1.units<cLine:=by have:=rm.in1;lia
 have he:∀y,y∈vs.toArray->SeqAt.EqAt A.in1 s y u (vW s.heap (.str x) (xs.map .str) y):=λ y hy=>by
  refine A0 (r1.mem (by simpa using hy)) λ w hZ=>?_;delta hZ hw Ju
  rw[yZ af hw Ju]
  exact vX Tt (G3.mp af _ hw) rfl Ju r2
 have at_:∀m (hm:m<vs.toArray.size),∃y,xs[m]? =some y∧vW s.heap (.str x) (xs.map .str) vs.toArray[m]=decide (y=x):=λ m hm=>by
  have LE:m<xs.length:=by rw[H0]at hm;lia
  have e3:(xs.map PV.str)[m]? =some (.str xs[m]):=by rw[H9,C4 LE];rfl
  refine A0 (r1.get e3) λ w hZ=>?_;delta hZ e2 Ju
  have e4:vs.toArray[m]=w:=by
   have:vs.toArray[m]? =some w:=by rw[dF];exact e2
   rw[qA hm]at this;exact H1 this
  exact⟨xs[m],C4 LE,by rw[e4,yZ af (B5 e3) Ju];rfl⟩
 have hsz:vs.toArray.size=xs.length:=by rw[H0,l]
 refine A0 (at_ j (by lia)) λ y hZ=>?_;delta hZ y1 y2
 rw[hj]at y1;clear af e hj Tt l r1 r2 rm;cases y1
 refine iT PySem.F.slot_list_index ⟨_,e1,rfl⟩ PySem.F.entry_list_index (PySem.F.args_list_index_2 _ _) (SeqAt.list_indexAt a vs.toArray k none #[] u (vW s.heap (.str x) (xs.map .str)) j (by lia) (by lia) (by rw[y2];simp) λ m hm h=>?_) ⟨e1,he,K4.val (A:=A) S (.int _ _) q⟩
 refine A0 (at_ m hm) λ z hZ=>?_;delta hZ z1 z2
 rw[z2,J8]
 clear S at_ e1 he k q u y2 z2;rintro rfl
 exact z8 m h z1
end
structure Led(C8 σ:PH)(L R:List (Addr×PO)):Prop where
 nd:((L++R).map (·.1)).Nodup
 new:∀p∈L++R,C8 p.1=none
 at_:∀p∈L++R,σ p.1=some p.2
 ext:Ext C8 σ
section
variable{C8 σ:PH}{L R:List (Addr×PO)}
theorem Led.nil(E:Ext C8 σ):Led C8 σ [] []:=⟨.nil,λ _ h=>(nomatch h),λ _ h=>(nomatch h),E⟩
theorem Led.start(σ:PH):Led σ σ [] []:=.nil (.refl σ)
theorem Led.grow{B9:PH}(h:Led C8 σ L R)(E:Ext σ B9):Led C8 B9 L R:=⟨h.nd,h.new,λ p hp=>E _ _ (h.at_ p hp),h.ext.trans E⟩
theorem Led.get(h:Led C8 σ L R)(k:Nat){a:Addr}{o:PO}(e:L[k]? =some (a,o)):σ a=some o:=h.at_ _ (G9 _ (B5 e))
theorem Led.HE(h:Led C8 σ L R){k:Nat}{a:Addr}{o:PO}(e:R[k]? =some (a,o)):σ a=some o:=h.at_ _ (G4 _ (B5 e))
theorem Led.obj(h:Led C8 σ L R)(k j:Nat){a C dx:Addr}{fs:List (String×PV)}(e:L[k]? =some (a,.inst C dx))(e2:L[j]? =some (dx,.attrs C fs)):aS σ a C fs:=⟨dx,h.get k e,h.get j e2⟩
theorem Led.put(h:Led C8 σ L R){X Y:List (Addr×PO)}{a:Addr}{o o':PO}(e:L++R=X++(a,o)::Y){L' R':List (Addr×PO)}(e':L'++R'=X++(a,o')::Y):Led C8 (σ.set a o') L' R':=by
 obtain⟨nd,new,at_,ext⟩:=h
 rw[e]at nd new at_
 have Vx:=nd
 rw[C1,I6,O8,N7]at Vx
 have na:C8 a=none:=new (a,o) (by simp)
 refine⟨by rw[e'];rw[C1,I6]at nd ⊢;exact nd,λ p hp=>?_,λ p hp=>?_,ext.upd na _⟩
 ·rw[e']at hp
  rcases G8.mp hp with hp|hp
  ·exact new p (by simp[hp])
  ·rcases F8.mp hp with rfl|hp
   ·exact na
   ·exact new p (by simp[hp])
 ·rw[e']at hp
  rcases G8.mp hp with hp|hp
  ·rw[PH.U0]
   ·exact at_ p (by simp[hp])
   ·exact Vx.2.2 _ (J2 hp) _ (.head _)
  ·rcases F8.mp hp with rfl|hp
   ·exact PH.J7 ..
   ·rw[PH.U0]
    ·exact at_ p (by simp[hp])
    ·exact λ q=>Vx.2.1.1 (by have:=J2 (f:=Prod.fst) hp;rw[q]at this;exact this)
theorem Led.sub(h:Led C8 σ L R){L' R':List (Addr×PO)}(s:(L'++R').Sublist (L++R)):Led C8 σ L' R':=⟨h.nd.sublist (s.map _),λ p hp=>h.new p (s.subset hp),λ p hp=>h.at_ p (s.subset hp),h.ext⟩
theorem Led.drop{X:List (Addr×PO)}(h:Led C8 σ (L++X) R):Led C8 σ L R:=h.sub (by rw[C6];exact(List.sublist_append_right X R).append_left L)
theorem fF{α:Type}{l:List α}{k:Nat}{x:α}(e:l[k]? =some x)(y:α):l=l.take k++x::l.drop (k+1)∧l.set k y=l.take k++y::l.drop (k+1):=by
 refine A0 (D3.mp e) λ h e=>?_
 refine⟨?_,List.set_eq_take_append_cons_drop .. |>.trans (F7 h)⟩
 rw[<-e,List.getElem_cons_drop,List.take_append_drop]
theorem Led.set(h:Led C8 σ L R)(k:Nat){a:Addr}{o:PO}(e:L[k]? =some (a,o))(o':PO):Led C8 (σ.set a o') (L.set k (a,o')) R:=by
 have hZ:=fF e (a,o');delta hZ e1 e2
 exact h.put (X:=L.take k) (Y:=L.drop (k+1)++R) (o:=o) (by conv=>lhs;rw[e1,C6,P7]) (by conv=>lhs;rw[e2,C6,P7])
theorem Led.Pj(h:Led C8 σ L R){k:Nat}{a:Addr}{o:PO}(e:R[k]? =some (a,o))(o':PO):Led C8 (σ.set a o') L (R.set k (a,o')):=by
 have hZ:=fF e (a,o');delta hZ e1 e2
 exact h.put (X:=L++R.take k) (Y:=R.drop (k+1)) (o:=o) (by conv=>lhs;rw[e1,<-C6]) (by conv=>lhs;rw[e2,<-C6])
theorem Led.add(h:Led C8 σ L R){c:Addr}(hc:σ c=none)(o:PO){L' R':List (Addr×PO)}{X Y:List (Addr×PO)}(e:L++R=X++Y)(e':L'++R'=X++(c,o)::Y):Led C8 (σ.set c o) L' R':=by
 obtain⟨nd,new,at_,ext⟩:=h
 have nc:C8 c=none:=ext.none hc
 have fr:c∉(X++Y).map (·.1):=λ m=>by
  refine A0 (D2.mp m) λ p hZ=>?_;generalize hZ.1=hp;clear m;clear e' nc;obtain rfl:=hZ.2;try clear hZ
  rw[<-e]at hp
  rw[at_ p hp]at hc;cases hc
 rw[e]at nd new at_
 rw[C1,G8,not_or]at fr
 refine⟨?_,λ p hp=>?_,λ p hp=>?_,ext.upd nc _⟩
 ·rw[e']
  rw[C1,O8]at nd
  rw[C1,I6,O8,N7]
  refine⟨nd.1,⟨fr.2,nd.2.1⟩,λ a ha b hb=>?_⟩
  clear e' nc hc;rcases F8.mp hb with rfl|hb
  ·exact λ q=>fr.1 (q▸ha)
  ·exact nd.2.2 a ha b hb
 ·rw[e']at hp
  rcases G8.mp hp with hp|hp
  ·exact new p (by simp[hp])
  ·rcases F8.mp hp with rfl|hp
   ·exact nc
   ·exact new p (by simp[hp])
 ·rw[e']at hp
  have go:p∈X++Y->(σ.set c o) p.1=some p.2:=λ hp=>PH.VV (at_ p hp) hc
  clear at_ e e' ext fr hc nc nd new;rcases G8.mp hp with hp|hp
  ·exact go (by simp[hp])
  ·rcases F8.mp hp with rfl|hp
   ·exact PH.J7 ..
   ·exact go (by simp[hp])
theorem Led.alloc(h:Led C8 σ L R){c:Addr}(hc:σ c=none)(o:PO):Led C8 (σ.set c o) (L++[(c,o)]) R:=h.add hc o (X:=L) (Y:=R) rfl (by simp)
theorem Led.wG(h:Led C8 σ L R){c:Addr}(hc:σ c=none)(o:PO):Led C8 (σ.set c o) L (R++[(c,o)]):=h.add hc o (X:=L++R) (Y:=[]) (by simp) (by simp)
theorem Qj{o:PO}{Q:PV->PH->Prop}(h:Led C8 σ L R)(k:∀c B9,Led C8 B9 (L++[(c,o)]) R->Q (.ref c) B9):∀c,σ c=none->Q (.ref c) (σ.set c o):=λ c hc=>k c _ (h.alloc hc o)
end
def lZ(l:List Addr)(f:Nat->List PV):List (Addr×PO):=l.zipIdx.map λ p=>(p.1,.list (f p.2))
theorem aC{l:List Addr}{f:Nat->List PV}{i:Nat}{a:Addr}(h:l[i]? =some a):(lZ l f)[i]? =some (a,.list (f i)):=by
 unfold lZ;rw[H9,kJ,h];simp
theorem gU{l:List Addr}{f g:Nat->List PV}(h:∀i,i<l.length->f i=g i):lZ l f=lZ l g:=by
 refine iA λ i=>?_
 cases e:l[i]? with
 |none=>unfold lZ;simp[kJ,e]
 |some a=>rw[aC e,aC e,h i (D3.mp e).1]
theorem yT{l:List Addr}{f:Nat->List PV}{i:Nat}{a:Addr}(h:l[i]? =some a)(xs:List PV):(lZ l f).set i (a,.list xs)=lZ l λ j=>if j=i then xs else f j:=by
 refine iA λ j=>?_
 rw[aX]
 have len:(lZ l f).length=l.length:=by unfold lZ;simp
 by_cases c:i=j
 ·subst c
  rw[F7 rfl,F7 (by rw[len];exact(D3.mp h).1),aC h]
  simp
 ·rw[G0 c]
  cases e:l[j]? with
  |none=>unfold lZ;simp[kJ,e]
  |some b=>rw[aC e,aC e];simp[gZ c]
theorem BB(l:List Addr)(f:Nat->List PV)(c:Addr):lZ l f++[(c,.list (f l.length))]=lZ (l++[c]) f:=by
 unfold lZ;rw[List.zipIdx_append,C1];simp
theorem Led.rows{C8 σ:PH}{L:List (Addr×PO)}{l:List Addr}{f:Nat->List PV}(h:Led C8 σ L (lZ l f)):Rows σ l l.length f:=⟨rfl,λ i a e=>h.HE (aC e)⟩
section
variable{W:Wd}{n:Nat}
variable{σ:PH}{ρ:List PV}{r:V0}{K:Fl->List PV->PH->Prop}{e:PE}
theorem Q9{f:String}{a:Addr}(h0:ρ[0]? =some (.ref a))(he:(wp W tb n e).v ρ σ λ x B4=>∃C dx fs,B4 a=some (.inst C dx)∧B4 dx=some (.attrs C fs)∧tb.fld C f=true∧fs.length<=100∧S8 W tb n r ρ (B4.set dx (.attrs C (lS f x fs))) K):
  S8 W tb n (.cons (.Q1 (.loc 0) f e) r) ρ σ K:=by
 show(wp W tb n e).v ρ σ λ x B4=>(wp W tb n (.loc 0)).v ρ B4 λ ov H6=>kO tb H6 f x (λ R9=>S8 W tb n r ρ R9 K) ov
 refine Eq.mp (C7 _ ?_) he
 funext x B4
 show _=match ρ[0]? with|some .M7=>False|some v=>kO tb B4 f x (λ R9=>S8 W tb n r ρ R9 K) v|none=>False
 rw[h0]
 rfl
theorem aD{C8:PH}{f:String}{C a dx:Addr}{fs:List (String×PV)}{L R:List (Addr×PO)}{x:PV}(h:Led C8 σ ((a,.inst C dx)::(dx,.attrs C fs)::L) R)(hf:tb.fld C f=true)(hz:fs.length<=100)
  (k:∀B9,Led C8 B9 ((a,.inst C dx)::(dx,.attrs C (lS f x fs))::L) R->S8 W tb n r ρ B9 K):∃C dx fs,σ a=some (.inst C dx)∧σ dx=some (.attrs C fs)∧tb.fld C f=true∧fs.length<=100∧S8 W tb n r ρ (σ.set dx (.attrs C (lS f x fs))) K:=
 ⟨C,dx,fs,h.get 0 rfl,h.get 1 rfl,hf,hz,k _ (h.set 1 rfl _)⟩
theorem vQ(P:dQ W)(j i k:Nat){C:Addr}{r:P0}(hj:EU[j]? =some (C,r.a))(hi:rows[i]? =some r){σ:PH}{args O5:List PV}{fs:List (String×PV)}{b':V0}{Q:PV->PH->Prop}(hf:∀x,r.frame (.ref x::args)=some (.ref x::O5))
  (hr:∀x,WE C (.ref x::O5) k r.b []=some (fs,b'))(q:∀x dx B9,Led σ B9 [(x,.inst C dx),(dx,.attrs C fs)] []->S8 W tb n b' (.ref x::O5) B9 (Pp λ v B9=>v=.none∧Q (.ref x) B9)):J9 W (n+2) (.ref C) args σ Q:=
 P.cls j hj λ x dx ne hx Nt=>P.Ui r i hi (hf x) (tB (C:=C) (dx:=dx) (x:=x) rfl ne k _ (hr x) (PH.J7 ..) (by rw[PH.U0 _ _ (gZ ne)];exact PH.J7 ..) (q x dx _ (by
  have h1:Led σ _ [(dx,.attrs C [])] []:=(Led.start σ).alloc Nt (.attrs C [])
  have h2:=h1.add (c:=x) (by rw[PH.U0 _ _ ne];exact hx) (.inst C dx) (X:=[]) (Y:=[(dx,.attrs C [])]) (L':=[(x,.inst C dx),(dx,.attrs C [])]) (R':=[]) rfl rfl
  exact h2.set 1 rfl _)))
end
theorem P9{n x:Nat}{pre post:List Nat}(h:List.range n=pre++x::post):pre=List.range x∧x<n:=by
 have hl:pre.length<n:=by have:=C7 List.length h;simp at this;lia
 have e:(List.range n)[pre.length]? =some x:=by rw[h,N2 (D7 _)];simp
 rw[bW hl]at e
 cases e
 refine⟨?_,hl⟩
 have:(List.range n).take pre.length=pre:=by rw[h];simp
 rw[List.take_range,fX (M8 hl)]at this
 exact this.symm
theorem zW{α:Type}(d:α)(l:List α):l=(List.range l.length).map λ i=>l.getD i d:=by
 refine List.ext_getElem (by simp) λ i h1 h2=>?_
 simp[h1]
theorem fG(l:List Addr):refs l=(List.range l.length).map λ i=>.ref (l.getD i 0):=by
 conv=>lhs;rw[zW 0 l]
 rw[refs,G2];rfl
section
variable{W:Wd}{n:Nat}{σ C8:PH}{L:List (Addr×PO)}
set_option tactic.hygienic true in
theorem FS{e:PE}{tg:Nat}{v:PV}{xs:List PV}{ρ:List PV}{Q:PV->PH->Prop}(hL:Led C8 σ L [])(h:pv σ ρ e=some v)(hv:mB σ v xs)(hb:∀x∈xs,∃ys,eH tg x=some ys)
  (k:∀c B9 l,l.length=xs.length->Led C8 B9 (L++[(c,.list (refs l))]) (lZ l λ _=>[])->Q (.ref c) B9):(wp W tb n (.comp (.list .nil) tg e (.bool true))).v ρ σ Q:=by
 refine X4 e h ⟨xs,hv,?_⟩
 have:=comp_map (l:=xs) (f:=id) (V4:=M9 σ v) (turn:=λ x σ R=>∃ys,eH tg x=some ys∧(wp W tb n (.bool true)).t (ρ++ys) σ λ b B9=>match b with
    |true=>(wp W tb n (.list .nil)).v (ρ++ys) B9 λ y S7=>R (some y) S7
    |false=>R none B9) (K:=λ ys H6=>∀c,H6 c=none->Q (.ref c) (H6.set c (.list ys))) (σ:=σ)
  (λ pre acc B9=>∃l,acc=refs l∧l.length=pre.length∧Ext σ B9∧Led C8 B9 L (lZ l λ _=>[])) ⟨[],rfl,rfl,.refl _,hL⟩
  (λ pre x post acc B9 R hl Vd hR=>by
   intros Vd l hZ;delta hZ ha hz E Xi
   refine A0 (hb x (by rw[hl];simp)) λ ys hy=>?_
   refine⟨ys,hy,true,rfl,λ c hc=>hR (some (.ref c)) _ ?_ ⟨l++[c],by rw[ha];simp,by simp[hz],E.trans (Ext.new hc _),by rw[<-BB];exact Xi.wG hc _⟩⟩
   clear h hL hR hb hl hy post tg x ys ρ;cases v<;>first|trivial|skip
   rename_i a
   show(B9.set c _) a=σ a
   have hd:∃o,σ a=some o:=by
    have h1:itemsOf σ (.ref a)=some xs:=hv.1
    cases ho:σ a with
    |none=>rw[show itemsOf σ (.ref a)=cF _ _ (σ a)from rfl,ho]at h1;cases h1
    |some o=>exact⟨o,rfl⟩
   intros hd o ho
   rw[PH.VV (E _ _ ho) hc,ho])
  (λ acc B9 ⟨l,ha,hz,E,Xi⟩ c hc=>by subst ha;exact k c _ l hz (Xi.alloc hc _))
 rw[gK]at this
 exact this
end
def SF(σ B9:PH):Prop:=∀a o,σ a=some o->(∀xs,o≠.list xs)->(∀es m,o≠.dict es m)->B9 a=some o
theorem SF.list{σ:PH}{a:Addr}{xs:List PV}(h:σ a=some (.list xs))(o':PO):SF σ (σ.set a o'):=λ b o e h1 _=>by
 rw[PH.U0];exact e
 rintro rfl;rw[h]at e;cases e;exact h1 _ rfl
theorem SF.dict{σ:PH}{a:Addr}{es:List (PK×PV)}{m:Nat}(h:σ a=some (.dict es m))(o':PO):SF σ (σ.set a o'):=λ b o e _ h2=>by
 rw[PH.U0];exact e
 rintro rfl;rw[h]at e;cases e;exact h2 _ _ rfl
theorem aS.obs{σ B9:PH}(O:SF σ B9){a C:Addr}{fs:List (String×PV)}(h:aS σ a C fs):aS B9 a C fs:=let⟨dx,h1,h2⟩:=h
 ⟨dx,O _ _ h1 (λ _ e=>by cases e) (λ _ _ e=>by cases e),O _ _ h2 (λ _ e=>by cases e) (λ _ _ e=>by cases e)⟩
theorem aB.obs{σ B9:PH}(O:SF σ B9){a i:Nat}{r:Rl}(h:aB σ a i r):aB B9 a i r:=let⟨l,o⟩:=h;⟨l,o.obs O⟩
section
variable{W:Wd}{n:Nat}{σ C8:PH}{L R:List (Addr×PO)}{ρ:List PV}{Q:PV->PH->Prop}{K:Fl->List PV->PH->Prop}{e e' KC:PE}{x:PV}{r:V0}
theorem K7{as:uL}{xs:List PV}(hL:Led C8 σ L R)(h:Bb σ ρ as=some xs)(k:∀c B9,Led C8 B9 (L++[(c,.list xs)]) R->Q (.ref c) B9):(wp W tb n (.list as)).v ρ σ Q:=uP h λ c hc=>k c _ (hL.alloc hc _)
theorem dR(hL:Led C8 σ L R)(k:∀c B9,Led C8 B9 (L++[(c,.dict [] 0)]) R->Q (.ref c) B9):(wp W tb n .dO).v ρ σ Q:=OW λ c hc=>k c _ (hL.alloc hc _)
theorem aG(i:Nat){as:PE}{a:Addr}{xs:List PV}(hL:Led C8 σ L R)(ha:L[i]? =some (a,.list xs))(ho:pv σ ρ e=some (.ref a))(h:pv σ ρ as=some x)(hz:xs.length<=2^24)(k:∀B9,SF σ B9->Led C8 B9 (L.set i (a,.list (xs++[x]))) R->Q .none B9):
  (wp W tb n (.H2 e "append" (.cons as .nil))).v ρ σ Q:=zG ho (hL.get i ha) h hz (k _ (.list (hL.get i ha) _) (hL.set i ha _))
theorem LO{i:Nat}{as:PE}{a:Addr}{xs:List PV}(hL:Led C8 σ L R)(ha:R[i]? =some (a,.list xs))(ho:pv σ ρ e=some (.ref a))(h:pv σ ρ as=some x)(hz:xs.length<=2^24)(k:∀B9,SF σ B9->Led C8 B9 L (R.set i (a,.list (xs++[x])))->Q .none B9):
  (wp W tb n (.H2 e "append" (.cons as .nil))).v ρ σ Q:=zG ho (hL.HE ha) h hz (k _ (.list (hL.HE ha) _) (hL.Pj ha _))
theorem aW(i:Nat){a:Addr}{xs:List PV}(hL:Led C8 σ L R)(ha:L[i]? =some (a,.list xs))(hz:xs.length<=2^24)(k:∀B9,SF σ B9->Led C8 B9 (L.set i (a,.list (xs++[x]))) R->Q .none B9):J9 W n (.builtin "list.append") [.ref a,x] σ Q:=BD (hL.get i ha) hz (k _ (.list (hL.get i ha) _) (hL.set i ha _))
theorem MZ(i:Nat){a b:Addr}{xs ys:List PV}(hL:Led C8 σ L R)(ha:L[i]? =some (a,.list xs))(hb:σ b=some (.list ys))(hz:xs.length+ys.length<=2^24)(k:∀B9,SF σ B9->Led C8 B9 (L.set i (a,.list (xs++ys))) R->Q .none B9):J9 W n (.builtin "list.extend") [.ref a,.ref b] σ Q:=XF (hL.get i ha) hb hz (k _ (.list (hL.get i ha) _) (hL.set i ha _))
theorem gG{a b:Addr}{xs ys:List PV}(hL:Led C8 σ L R)(ha:σ a=some (.list xs))(hb:σ b=some (.list ys))(hz:xs.length+ys.length<=2^24)(k:∀c B9,Led C8 B9 (L++[(c,.list (xs++ys))]) R->Q (.ref c) B9):mM .Add σ Q (.ref a) (.ref b):=⟨rfl,xs,ys,ha,hb,hz,λ c hc=>k c _ (hL.alloc hc _)⟩
theorem CE{a:Addr}{y:PV}{m:Nat}(hL:Led C8 σ L R)(ha:σ a=some (.list [y]))(hz:m<=2^24)(k:∀c B9,Led C8 B9 (L++[(c,.list (List.replicate m y))]) R->Q (.ref c) B9):mM .Mult σ Q (.ref a) (C0 m):=⟨rfl,[y],ha,by lia,by lia,rfl,λ c hc=>by
 rw[show(List.replicate ((m:Int)).toNat [y]).flatten=List.replicate m y from by simp]
 exact k c _ (hL.alloc hc _)⟩
theorem mV(i:Nat){a:Addr}{xs:List PV}{j:Nat}(hL:Led C8 σ L R)(ha:L[i]? =some (a,.list xs))(he:pv σ ρ e=some x)(ho:pv σ ρ e'=some (.ref a))(hi:pv σ ρ KC=some (.int j))(hj:j<xs.length)(k:∀B9,SF σ B9->Led C8 B9 (L.set i (a,.list (xs.set j x))) R->S8 W tb n r ρ B9 K):
  S8 W tb n (.cons (.aM e' KC e) r) ρ σ K:=Jp he ho hi (hL.get i ha) hj (k _ (.list (hL.get i ha) _) (hL.set i ha _))
theorem rF(i:Nat){a:Addr}{es:List (PK×PV)}{m:Nat}{y:PV}{q:PK}(hL:Led C8 σ L R)(ha:L[i]? =some (a,.dict es m))(he:pv σ ρ e=some x)(ho:pv σ ρ e'=some (.ref a))(hi:pv σ ρ KC=some y)(hk:keyOf y=some q)(hs:U3 q es=true)(hz:es.length<2^24)
  (k:∀m' B9,SF σ B9->Led C8 B9 (L.set i (a,.dict (putK q x es) m')) R->S8 W tb n r ρ B9 K):S8 W tb n (.cons (.aM e' KC e) r) ρ σ K:=Pk he ho hi (hL.get i ha) hk hs hz λ m'=>k m' _ (.dict (hL.get i ha) _) (hL.set i ha _)
end
theorem AO:∀(l:List Rl) (k:Nat) (r:Rl),gP (l++[r]) k=gP l k++List.replicate (r.right.length+1) (k+l.length)
 |[],k,r=>C9 _
 |x::l,k,r=>by
  rw[P7,pR,pR,AO l (k+1) r,C6]
  rw[show k+1+l.length=k+(x::l).length from by simp;lia]
theorem pQ:∀(l:List Rl) (k:Nat),(gP l k).length=(l.map λ r=>r.right.length+1).sum
 |[],_=>rfl
 |x::l,k=>by rw[pR,B0,K8,pQ l (k+1),I6,qX]
structure Gr.Wf(G:Gr):Prop where
 left:∀r∈G.rules,r.left<G.names.length
 sym:∀r∈G.rules,∀x∈r.right,x<G.names.length
 len:∀r∈G.rules,r.right.length<=3
 rules:G.rules.length<=6
 names:G.names.length<=10
 pos:1<=G.rules.length
 own:G.aR.length<=15
 tc:G.tc<=G.names.length
 na:∀r∈G.rules,G.tc∉r.right
 r0:G.rules[0]?.map (·.left)=some G.tc
 t3:3<=G.tc
 t5:G.tc<=5
theorem Ci:∀l:List Rl,(∀r∈l,r.right.length<=3)->(gP l 0).length<=4*l.length:=by
 intro l h
 rw[pQ]
 induction l with
 |nil=>simp
 |cons x q ih=>have:=ih λ r hr=>h r (.tail _ hr);have:=h x (.head _);simp;lia
theorem Cj{G:Gr}{i:Nat}{r:Rl}(h:G.rules[i]? =some r)(s:Nat):(List.range (i+1)).filter (λ j=>(G.rules[j]?.map (·.left))==some s)=(List.range i).filter (λ j=>(G.rules[j]?.map (·.left))==some s)++(if r.left=s then[i]else[]):=by
 rw[List.range_succ,G7]
 congr 1
 by_cases c:r.left=s<;>simp[h,c]
abbrev Fx(G:Gr)(k s:Nat):List PV:=((List.range k).filter λ j=>(G.rules[j]?.map (·.left))==some s).map C0
section
variable{W:Wd}(P:dQ W){n:Nat}{σ:PH}{Q:PV->PH->Prop}
include P
theorem UK{nm ru lv:Addr}{ra:List Addr}{st:Int}{G:Gr}(w:G.Wf)(h1:σ nm=some (.list (G.names.map .str)))(h2:σ ru=some (.list (refs ra)))(hl:ra.length=G.rules.length)(hr:∀i b r,ra[i]? =some b->G.rules[i]? =some r->aB σ b i r)
  {m:Nat}(h3:σ lv=some (.dict [] m))(q:∀g B9,Ext σ B9->pZ B9 g G->Q (.ref g) B9):J9 W (n+2) (.ref 181) [.ref nm,C0 G.tc,.ref ru,.ref lv,.none,.int st] σ Q:=by
 have wn:=w.names
 have wr:=w.rules
 refine vQ P 1 2 6 (r:=oN) rfl rfl (O5:=[.ref nm,C0 G.tc,.ref ru,.ref lv,.none,.int st,.M7]) (λ _=>rfl) (λ _=>rfl) λ x dx aK L1=>?_
 have f1:=(L1.obj 0 1 rfl rfl).fld "names"
 refine Q9 rfl (FS L1 (v:=.ref nm) (xs:=G.names.map .str) (D8 rfl f1) (V6 (L1.ext _ _ h1) (by rw[A8];lia)) (λ y hy=>⟨[y],rfl⟩) λ c1 W9 l hz L2=>aD L2 rfl (C3 rfl) λ Y8 L3=>?_)
 rw[A8]at hz
 refine Q9 rfl (K7 L3 rfl λ c2 bK L4=>aD L4 rfl (C3 rfl) λ cH L5=>?_)
 refine Q9 rfl (K7 L5 rfl λ c3 eK L6=>aD L6 rfl (C3 rfl) λ eW L7=>?_)
 have f7:=(L7.obj 0 1 rfl rfl).fld "rules"
 refine oC (v:=.ref ru) (λ pre ρ B9=>∃y,ρ=[.ref x,.ref nm,C0 G.tc,.ref ru,.ref lv,.none,.int st,y]∧
   Led σ B9 [(x,.inst 181 dx),(dx,.attrs 181 [("names",.ref nm),("terminal_count",C0 G.tc),("rules",.ref ru),("levels",.ref lv),("expect",.none),("start",.int st),("by_left",.ref c1),("offsets",.ref c2),("owners",.ref c3)]),(c1,.list (refs l)),(c2,.list (((List.range pre.length).map G.off).map C0)),(c3,.list ((gP (G.rules.take pre.length) 0).map C0))] (lZ l (Fx G pre.length)))
  (D8 rfl f7) (V6 (by rw[L7.ext _ _ h2,fG,hl]) (by simp;lia)) ⟨_,rfl,L7⟩ ?_ ?_
 ·intro pre i post ρ B9 R vT hQ;intros hQ y hZ;obtain rfl:=hZ.1;delta hZ hZ L;intro hR
  have hZ:=P9 vT;delta hZ hp hi
  have TH:pre.length=i:=by rw[hp];simp
  rw[B0,X9,TH]at hR
  rw[TH]at L
  have hg:G.rules[i]? =some G.rules[i]:=C4 hi
  generalize Tv:G.rules[i]=r at hg
  have hm:r∈G.rules:=B5 hg
  have bj:ra[i]? =some (ra.getD i 0):=by rw[C2,C4 (by lia)];rfl
  have ir:=hr i _ r bj hg
  have hb:l[r.left]? =some (l[r.left]'(by have:=w.left r hm;lia)):=C4 _
  generalize l[r.left]'(by have:=w.left r hm;lia)=b at hb
  have Ye:∀{S7:PH} {L' R':List (Addr×PO)} {xs ys:List PV},Led σ S7 [(x,.inst 181 dx),(dx,.attrs 181 [("names",.ref nm),("terminal_count",C0 G.tc),("rules",.ref ru),("levels",.ref lv),("expect",.none),("start",.int st),("by_left",.ref c1),("offsets",.ref c2),("owners",.ref c3)]),(c1,.list (refs l)),(c2,.list xs),(c3,.list ys)] R'->
    fld S7 (.ref x) "by_left"=some (.ref c1)∧fld S7 (.ref x) "offsets"=some (.ref c2)∧fld S7 (.ref x) "owners"=some (.ref c3):=λ h=>⟨(h.obj 0 1 rfl rfl).fld _,(h.obj 0 1 rfl rfl).fld _,(h.obj 0 1 rfl rfl).fld _⟩
  have hZ:=Ye (L':=[]) L;delta hZ b1
  have g1:=(ir.ext L.ext).left
  have g2:=(ir.ext L.ext).number
  have ss:=I0 (k:=r.left) (x:=.ref b) (L.get 2 rfl) (by rw[H9,hb];rfl)
  refine N4 (LO (x:=C0 i) L (aC hb) ?_ ?_ ?_ λ qB _ L8=>?_)
  ·exact I8 (D8 rfl b1) (D8 rfl g1) ss
  ·exact D8 rfl g2
  ·have:((List.range i).filter λ j=>(G.rules[j]?.map (·.left))==some r.left).length<=i:=A9 (H4 ..) (by simp)
   simp;lia
  rw[yT hb]at L8
  have hZ:=Ye (L':=[]) L8;delta hZ hZ b2 b3
  have ol:(gP (G.rules.take i) 0).length=G.off i:=pQ _ _
  refine N4 (aG 3 (x:=C0 (G.off i)) L8 rfl ?_ ?_ ?_ λ IF _ L9=>?_)
  ·exact D8 rfl b2
  ·exact V8 (D8 rfl b3) (len_list (L8.get 4 rfl) ((A8 ..).trans ol))
  ·simp;lia
  have hZ:=Ye (L':=[]) L9;delta hZ hZ hZ b4
  have g3:=(ir.ext L9.ext).right
  have g4:=(ir.ext L9.ext).number
  refine N4 (T0 (v:=.ref c3) ?_ (N9 (L9.get 4 rfl) _) (F9 (O6 (K7 L9 (xs:=[C0 i]) ?_ λ c4 iU OM=>P2 (x:=C0 (r.right.length+1)) ?_ ?_))))
  ·exact D8 rfl b4
  ·exact p1 (D8 rfl g4)
  ·exact jJ (V8 (D8 rfl (aB.ext OM.ext ir).right) (pU (A8 ..))) rfl rfl
  ·have w3:=w.len r hm
   have oz:=Ci (G.rules.take i) λ r hr=>w.len r (List.mem_of_mem_take hr)
   rw[Y1]at oz
   refine CE OM (OM.get 5 rfl) (by lia) λ c5 nZ Gl=>M0 (MZ 4 Gl rfl (Gl.get 6 rfl) (by simp;lia) λ rA _ Gk=>s_end (hR .next _ _ trivial ?_ ⟨_,rfl,?_⟩))
   ·show rA ru=eW ru
    rw[Gk.ext _ _ h2,L7.ext _ _ h2]
   ·have e1:((List.range i).map G.off).map C0++[C0 (G.off i)]=((List.range (i+1)).map G.off).map C0:=by rw[List.range_succ];simp
    have e2:(gP (G.rules.take i) 0).map C0++List.replicate (r.right.length+1) (C0 i)=(gP (G.rules.take (i+1)) 0).map C0:=by
     rw[List.take_add_one,hg]
     show _=(gP (G.rules.take i++[r]) 0).map C0
     rw[AO,C1,Y1,fX (M8 hi),Y3]
     congr 1
     simp
    have e3:lZ l (λ j=>if j=r.left then Fx G i r.left++[C0 i]else Fx G i j)=lZ l (Fx G (i+1)):=gU λ j _=>by
     unfold Fx
     rw[Cj hg]
     by_cases c:j=r.left
     ·subst c;simp
     ·rw[G0 c,G0 (gZ c)];simp
    rw[<-e1,<-e2,<-e3]
    exact Led.drop (X:=[(c4,_),(c5,_)]) Gk
 ·intro ρ B9 hQ;intros hQ y hZ;obtain rfl:=hZ.1;delta hZ hZ L
  rw[D9]at L
  have f8:=(L.obj 0 1 rfl rfl).fld "owners"
  rw[bZ]at L
  refine Q9 rfl (P2 (x:=C0 G.aR.length) ?_ (aD L rfl (C3 rfl) λ S7 L'=>s_end ⟨rfl,q x S7 L'.ext ?_⟩))
  ·exact V8 (D8 rfl f8) (len_list (L.get 4 rfl) (A8 ..))
  ·have o:=L'.obj 0 1 rfl rfl
   refine⟨⟨nm,o.fld _,L'.ext _ _ h1⟩,o.fld _,⟨ru,ra,o.fld _,L'.ext _ _ h2,hl,λ i b r a1 a2=>(hr i b r a1 a2).ext L'.ext⟩,⟨lv,m,o.fld _,L'.ext _ _ h3⟩,o.fld _,⟨c1,l,o.fld _,L'.get 2 rfl,?_⟩,⟨c2,o.fld _,L'.get 3 rfl⟩,⟨c3,o.fld _,L'.get 4 rfl⟩,λ f a hf=>?_⟩
   ·have:=L'.rows
    rw[hz]at this
    exact this
   ·have m7:∀p∈([("symbol_count",122),("is_terminal",129),("rules_of",150),("item",157),("rule_of",164),("dot_of",171),("after",178)]:List (String×Addr)),dY tb S7 (.ref x) p.1=some (.ref p.2):=
     Y7.mpr ⟨o.H2 _ rfl rfl,Y7.mpr ⟨o.H2 _ rfl rfl,Y7.mpr ⟨o.H2 _ rfl rfl,Y7.mpr ⟨o.H2 _ rfl rfl,Y7.mpr ⟨o.H2 _ rfl rfl,Y7.mpr ⟨o.H2 _ rfl rfl,Y7.mpr ⟨o.H2 _ rfl rfl,λ _ h=>(nomatch h)⟩⟩⟩⟩⟩⟩⟩
    exact m7 (f,a) hf
end
theorem XO{l:List Str}{x:Str}(h:x∈l):l[l.idxOf x]? =some x∧∀m:Nat,m<l.idxOf x->l[m]? ≠some x:=by
 have hl:=Y5.mpr h
 refine⟨by rw[C4 hl,nW hl],λ m hm e=>?_⟩
 have h2:m<l.findIdx (·==x):=hm
 have:=List.not_of_lt_findIdx h2
 rw[(D3.mp e).2]at this
 simp at this
section
variable{W:Wd}(P:dQ W){n:Nat}{σ:PH}{Q:PV->PH->Prop}
include P
theorem yI{rs:List Nat}{tc:Nat}(hz:rs.length<=20)(q:∀l:Int,Q (.int l) σ):J9 W (n+1) (.ref 198) [.tup (rs.map C0),C0 tc] σ Q:=by
 refine P.fn mZ 11 rfl (ρ:=[.tup (rs.map C0),C0 tc,.M7,.M7]) rfl (P3 (x:=.int (-1)) rfl ?_)
 refine oC (l:=rs) (f:=C0) (v:=.tup (rs.map C0)) (λ _ ρ B9=>B9=σ∧∃(l:Int) (y:PV),ρ=[.tup (rs.map C0),C0 tc,.int l,y]) rfl (rN (by rw[A8];lia)) ⟨rfl, -1,.M7,rfl⟩ ?_ ?_
 ·intro pre x post ρ B9 R _ hQ;clear q;obtain rfl:=hQ.1;refine A0 hQ.2 λ l Q0=>?_;intros Q0 y P4;obtain rfl:=P4;try clear hQ;intro hR
  have ht:pt B9 [.tup (rs.map C0),C0 tc,.int l,C0 x] (.cmp .Lt (.loc 3) (.loc 1))=some (decide ((x:Int)<(tc:Int))):=rfl
  by_cases c:(x:Int)<(tc:Int)
  ·rw[H3 c]at ht
   exact qL ht (P3 (x:=C0 x) rfl (s_end (s_end (hR _ _ _ trivial trivial ⟨rfl,x,C0 x,rfl⟩))))
  ·rw[J8 c]at ht
   exact oB ht (s_end (hR _ _ _ trivial trivial ⟨rfl,l,C0 x,rfl⟩))
 ·intro ρ B9 hQ;obtain rfl:=hQ.1;refine A0 hQ.2 λ l Q0=>?_;intros Q0 y P4;clear hQ;obtain rfl:=P4;try clear hQ
  exact X7 rfl (q l)
theorem ZV{i:Nat}{r:Rl}{l:Int}(q:∀a B9,Ext σ B9->σ a=none->aB B9 a i r->Q (.ref a) B9):J9 W (n+2) (.ref 99) [C0 i,C0 r.left,.tup (r.right.map C0),.int l] σ Q:=
 tV P wZ 1 0 rfl rfl (O5:=[C0 i,C0 r.left,.tup (r.right.map C0),.int l,.none,.int 0,.int 0]) (λ _=>rfl) (λ _=>rfl) λ x B9 E hx O=>q x B9 E hx ⟨l,O⟩
end
abbrev xK:=List ((Str×List Str)×Addr)
def eI(l:List Str)(x:Str):List Str:=if x∈l then l else l++[x]
def bQ(ps:xK):List Str:=ps.foldl (λ l x=>eI l x.1.1) []
def kA(EQ ns:List Str)(x:Str):List Str:=if x∈EQ∨x∈ns then ns else ns++[x]
def yA:List Str:=["$end","error","$undefined"].map Str.ofString
def V3(EQ:List Str)(ps:xK):List Str:=ps.foldl (λ l x=>x.1.2.foldl (kA EQ) l) yA
def sS:Str:=Str.ofString "s"
def sT:Str:=Str.ofString "t"
def Q8(ps:xK):Gr:=
 let ts:=V3 [sS,sT] ps
 let ns:=ts++[Str.ofString "$accept"]++[sS,sT]
 ⟨ns,ts.length,⟨ts.length,[ns.idxOf sS,0]⟩::ps.map λ x=>⟨ns.idxOf x.1.1,x.1.2.map ns.idxOf⟩⟩
structure KQ(ps:xK):Prop where
 len:ps.length<=4
 parts:∀x∈ps,x.1.2.length<=3
 left:∀x∈ps,x.1.1=sS∨x.1.1=sT
 EQ:bQ ps=[sS,sT]
 mem:∀x∈ps,∀y∈x.1.2,y∈(Q8 ps).names
 wf:(Q8 ps).Wf
def Hf(x:(Str×List Str)×Addr):List PV:=[.str x.1.1,.ref x.2]
def Sv(σ:PH)(a:Addr)(ps:xK):Prop:=σ a=some (.list (ps.map λ x=>.tup (Hf x)))∧∀x∈ps,σ x.2=some (.list (x.1.2.map .str))
theorem BC{x:Str}{l:List Str}:DB (.str x) (l.map .str)=some (decide (x∈l)):=by
 unfold DB
 rw[F7 ⟨rfl,qT l⟩,nO]
 congr 1
 rw[fY,jO,P8]
 constructor
 ·intro hQ;intros hQ y hZ;delta hZ hy e;rw[<-D0 (show decide (y=x)=true from e)];exact hy
 ·intro h;exact⟨x,h,by show decide (x=x)=true;simp⟩
theorem Cy{σ:PH}{a:Addr}{l:List Str}{x:Str}(h:σ a=some (.list (l.map .str))):QO σ (.str x) (.ref a)=some (decide (x∈l)):=by
 rw[BH h];exact BC
theorem lX{σ:PH}{a:Addr}{l:List Str}{x:Str}(h:σ a=some (.list (l.map .str))):iP σ .NotIn (.str x) (.ref a)=some (!decide (x∈l)):=C7 (Option.map (!·)) (Cy h)
theorem Af{x:Str}(h:x=sS∨x=sT):decide (x=Str.ofString "error")=false∧Txt.slice x none (some 1)=x∧(DB (.str x) [.str (Str.ofString ""),.str (Str.ofString "$"),.str (Str.ofString "'")])=some false:=by
 rcases h with rfl|rfl
 ·exact⟨by decide+kernel,by decide+kernel,BC (l:=["","$","'"].map Str.ofString)|>.trans (by rw[J8];decide+kernel)⟩
 ·exact⟨by decide+kernel,by decide+kernel,BC (l:=["","$","'"].map Str.ofString)|>.trans (by rw[J8];decide+kernel)⟩
theorem cG{α β:Type}(f:β->α->β)(b:β)(l:List α)(x:α):(l++[x]).foldl f b=f (l.foldl f b) x:=by simp
theorem OH(l:List Str)(x:Str):(eI l x).length<=l.length+1:=by unfold eI;split<;>simp
theorem TD(ps:xK):∀l:List Str,(ps.foldl (λ l x=>eI l x.1.1) l).length<=l.length+ps.length:=by
 induction ps with
 |nil=>intro l;simp
 |cons x q ih=>intro l;have:=ih (eI l x.1.1);have:=OH l x.1.1;simp only[J0,H5];lia
theorem KL(k:List Str)(xs:List Str):∀l:List Str,(xs.foldl (kA k) l).length<=l.length+xs.length:=by
 induction xs with
 |nil=>intro l;simp
 |cons x q ih=>
  intro l
  have:=ih (kA k l x)
  have:(kA k l x).length<=l.length+1:=by unfold kA;split<;>simp
  simp only[J0,H5];lia
theorem DS(k:List Str)(ps:xK)(h:∀x∈ps,x.1.2.length<=3):∀l:List Str,(ps.foldl (λ l x=>x.1.2.foldl (kA k) l) l).length<=l.length+3*ps.length:=by
 induction ps with
 |nil=>intro l;simp
 |cons x q ih=>
  intro l
  have:=ih (λ y hy=>h y (.tail _ hy)) (x.1.2.foldl (kA k) l)
  have:=KL k x.1.2 l
  have:=h x (.head _)
  simp only[J0,H5];lia
section
variable{W:Wd}{n:Nat}{σ C8:PH}{L R:List (Addr×PO)}
theorem rE(σ:PH)(v:PV):M9 σ v σ:=by cases v<;>first|trivial|rfl
theorem gS{α:Type}{l:List α}{f g:α->PV}{ys:α->List PV}{elt e:PE}{tg:Nat}{v:PV}{ρ:List PV}{Q:PV->PH->Prop}(hL:Led C8 σ L R)(h:pv σ ρ e=some v)(hv:mB σ v (l.map f))(hb:∀x∈l,eH tg (f x)=some (ys x))
  (hs:∀x∈l,∀R:PV->PH->Prop,R (g x) σ->(wp W tb n elt).v (ρ++ys x) σ R)(k:∀c B9,Ext σ B9->Led C8 B9 (L++[(c,.list (l.map g))]) R->Q (.ref c) B9):(wp W tb n (.comp elt tg e (.bool true))).v ρ σ Q:=by
 refine X4 e h ⟨_,hv,comp_map (λ pre acc B9=>B9=σ∧acc=pre.map g) ⟨rfl,rfl⟩ (λ pre x post acc B9 R hl Vc hR=>?_) λ acc B9 Vb c hc=>?_⟩
 ·delta Vc h1 h2
  clear h hv;clear k hL;subst h1 h2
  have hx:x∈l:=by rw[hl];simp
  exact⟨ys x,hb x hx,true,rfl,hs x hx _ (hR (some (g x)) _ (rE _ _) ⟨rfl,by simp⟩)⟩
 ·delta Vb h1 h2
  clear h hb hs hv tg v ys ρ;subst h1 h2
  exact k c _ (Ext.new hc _) (hL.alloc hc _)
end
section
variable{W:Wd}{n:Nat}{σ:PH}{ρ:List PV}{Q:PV->PH->Prop}{B:Bool->PH->Prop}
theorem VN{a b:PE}(h:(wp W tb n a).t ρ σ λ t B4=>match t with|false=>(wp W tb n b).t ρ B4 B|true=>B true B4):(wp W tb n (.or a b)).t ρ σ B:=h
theorem IK{a b:PE}(h:(wp W tb n a).t ρ σ λ t B4=>match t with|true=>(wp W tb n b).t ρ B4 B|false=>B false B4):(wp W tb n (.and a b)).t ρ σ B:=h
theorem zL{a:PE}(h:(wp W tb n a).t ρ σ λ t B4=>B (!t) B4):(wp W tb n (.not a)).t ρ σ B:=h
theorem rB{o lo hi:PE}{x:Str}{y z:PV}{l h:Option Int}(ho:pv σ ρ o=some (.str x))(hl:pv σ ρ lo=some y)(hh:pv σ ρ hi=some z)(bl:Fy y=some l)(bh:Fy z=some h)(k:Q (.str (Txt.slice x l h)) σ):(wp W tb n (.wP o lo hi)).v ρ σ Q:=
 X4 o ho (X4 lo hl (X4 hi hh ⟨l,h,bl,bh,k⟩))
theorem v_ite{c a b:PE}(h:(wp W tb n c).t ρ σ λ t B4=>match t with|true=>(wp W tb n a).v ρ B4 Q|false=>(wp W tb n b).v ρ B4 Q):(wp W tb n (.ite c a b)).v ρ σ Q:=h
theorem Vg{q:Nat}{xs:List String}(k:Q (.tup (xs.map λ s=>.str (Str.ofString s))) σ):(wp W tb n (.gs q xs)).v ρ σ Q:=k
theorem bP{as:uL}(k:DN W tb n as ρ σ λ xs B4=>∀c,B4 c=none->Q (.ref c) (B4.set c (.list xs))):(wp W tb n (.list as)).v ρ σ Q:=k
end
section
variable{W:Wd}(P:dQ W){n:Nat}{σ:PH}{Q:PV->PH->Prop}
include P
theorem Fi{pl:Addr}{ps:xK}(ok:KQ ps)(hP:Sv σ pl ps)(q:∀g B9,Ext σ B9->pZ B9 g (Q8 ps)->Q (.ref g) B9):J9 W (n+3) (.ref 204) [.ref pl] σ Q:=by
 have lz:=ok.len
 refine P.fn mW 12 rfl (ρ:=[.ref pl,.none,.M7,.M7,.M7,.M7,.M7,.M7,.M7,.M7,.M7]) rfl ?_
 refine K1 (K7 (Led.start σ) rfl λ c2 aK L1=>?_)
 have st:∀B9 S7:PH,Ext σ B9->Ext σ S7->M9 B9 (.ref pl) S7:=λ B9 S7 E' E=>by show S7 pl=B9 pl;rw[E _ _ hP.1,E' _ _ hP.1]
 refine GF (l:=ps) (f:=Hf) (v:=.ref pl) (λ pre ρ B9=>∃y z:PV,ρ=[.ref pl,.none,.ref c2,y,z,.M7,.M7,.M7,.M7,.M7,.M7]∧Led σ B9 [(c2,.list ((bQ pre).map .str))] []) rfl (V6 (L1.ext _ _ hP.1) (by rw[A8];lia)) (λ _ _=>rfl) ⟨.M7,.M7,rfl,L1⟩ ?_ ?_
 ·intro pre x post ρ B9 R hl hQ;intros hQ y hZ;intros hZ z Q0;obtain rfl:=Q0.1;delta Q0 Q0 L;intro hR
  have hx:x∈ps:=by rw[hl];simp
  have hZ:=Af (ok.left x hx);delta hZ b1 b2 b3
  have pz:(bQ pre).length<=pre.length:=by have:=TD pre [];simpa[bQ]using this
  have Vr:pre.length<ps.length:=by rw[hl];simp
  have e:bQ (pre++[x])=eI (bQ pre) x.1.1:=cG ..
  refine Ca (VN (uS (t:=false) (by rw[<-b1];rfl) (iB (rB (x:=x.1.1) rfl rfl rfl rfl rfl (P2 rfl ⟨false,by rw[b2];exact b3,s_end ?_⟩)))))
  have ht:pt B9 [.ref pl,.none,.ref c2,.str x.1.1,.ref x.2,.M7,.M7,.M7,.M7,.M7,.M7] (.cmp .NotIn (.loc 3) (.loc 2))=some (!decide (x.1.1∈bQ pre)):=by
   exact N3 rfl rfl (lX (L.get 0 rfl))
  by_cases c:x.1.1∈bQ pre
  ·rw[H3 c]at ht
   refine oB ht (s_end (hR _ _ _ trivial (st _ _ L1.ext L.ext) ⟨_,_,rfl,?_⟩))
   rw[e,eI,F7 c];exact L
  ·rw[J8 c]at ht
   refine qL ht (N4 (aG 0 L rfl rfl rfl (by rw[A8];lia) λ W9 _ L2=>s_end (s_end (hR _ _ _ trivial (st _ _ L1.ext L2.ext) ⟨_,_,rfl,?_⟩))))
   rw[e,eI,G0 c,C1];exact L2
 ·intro ρ B9 hQ;intros hQ y hZ;intros hZ z Q0;clear L1 aK;obtain rfl:=Q0.1;delta Q0 Q0 L
  rw[ok.EQ]at L
  have f1:=L.get 0 rfl
  refine K1 (v_ite (VN (uS (t:=false) rfl (iB (P2 rfl (K7 L rfl λ c3 W9 L2=>⟨false,?_,P2 (x:=.str sS) ?_ ?_⟩))))))
  ·show Ii _ _ _=_;unfold Ii;rw[L2.get 0 rfl,L2.get 1 rfl];rfl
  ·exact I8 rfl rfl (I0 (k:=0) (L2.get 0 rfl) rfl)
  refine oB ?_ ?_
  ·exact N3 rfl rfl ((lX (l:=[sS,sT]) (L2.get 0 rfl)).trans (C7 (λ b=>some (!b)) (H3 (.head _))))
  have j8:=Led.drop (X:=[(c3,_)]) (L:=[(c2,_)]) L2
  clear L2 L f1
  refine K1 (T5 (F9 (Vg (M0 (CF (by simp) λ c6 Li=>?_)))))
  have L3:=j8.alloc Li (.list (yA.map .str))
  show S8 W tb (n+2) _ [.ref pl,.none,.ref c2,y,z,.str sS,.ref c6,.M7,.M7,.M7,.M7] (W9.set c6 (.list (yA.map .str))) _
  generalize W9.set c6 (.list (yA.map .str))=Y8 at L3
  refine GF (l:=ps) (f:=Hf) (v:=.ref pl) (λ pre ρ B9=>∃y z w:PV,ρ=[.ref pl,.none,.ref c2,y,z,.str sS,.ref c6,w,.M7,.M7,.M7]∧Led σ B9 [(c2,.list ([sS,sT].map .str)),(c6,.list ((V3 [sS,sT] pre).map .str))] []) rfl (V6 (L3.ext _ _ hP.1) (by rw[A8];lia)) (λ _ _=>rfl) ⟨_,_,_,rfl,L3⟩ ?_ ?_
  ·intro pre x post ρ B9 R hl hQ;intros hQ y hZ;intros hZ z Q0;intros Q0 w P4;obtain rfl:=P4.1;delta P4 P4 L;intro hR
   have hx:x∈ps:=by rw[hl];simp
   have xz:=ok.parts x hx
   have tz:(V3 [sS,sT] pre).length<=3+3*pre.length:=DS _ pre (λ y hy=>ok.parts y (by rw[hl];simp[hy])) yA
   have Vr:pre.length<ps.length:=by rw[hl];simp
   have e:V3 [sS,sT] (pre++[x])=x.1.2.foldl (kA [sS,sT]) (V3 [sS,sT] pre):=cG ..
   have hp:=hP.2 x hx
   refine oC (l:=x.1.2) (f:=.str) (v:=.ref x.2) (λ p2 ρ S7=>∃w:PV,ρ=[.ref pl,.none,.ref c2,.str x.1.1,.ref x.2,.str sS,.ref c6,w,.M7,.M7,.M7]∧Led σ S7 [(c2,.list ([sS,sT].map .str)),(c6,.list ((p2.foldl (kA [sS,sT]) (V3 [sS,sT] pre)).map .str))] []) rfl (V6 (L.ext _ _ hp) (by rw[A8];lia)) ⟨_,rfl,L⟩ ?_ ?_
   ·intro p2 t iG ρ S7 R2 fM hQ;intros hQ w hZ;obtain rfl:=hZ.1;delta hZ hZ M;intro bR
    have Pg:∀Y8:PH,Ext σ Y8->M9 B9 (.ref x.2) Y8:=λ Y8 E=>by show Y8 x.2=B9 x.2;rw[E _ _ hp,L.ext _ _ hp]
    have az:=KL [sS,sT] p2 (V3 [sS,sT] pre)
    have Tj:p2.length<x.1.2.length:=by rw[fM];simp
    rw[cG]at bR
    generalize p2.foldl (kA [sS,sT]) (V3 [sS,sT] pre)=ns at*
    have ht:pt S7 [.ref pl,.none,.ref c2,.str x.1.1,.ref x.2,.str sS,.ref c6,.str t,.M7,.M7,.M7] (.and (.cmp .NotIn (.loc 7) (.loc 2)) (.cmp .NotIn (.loc 7) (.loc 6)))=some (!(decide (t∈[sS,sT])||decide (t∈ns))):=(jP (N3 rfl rfl (lX (M.get 0 rfl))) (N3 rfl rfl (lX (M.get 1 rfl)))).trans (by rw[Bool.not_or])
    unfold kA at bR
    by_cases c:t∈[sS,sT]∨t∈ns
    ·rw[show(decide (t∈[sS,sT])||decide (t∈ns))=true from by simpa using c]at ht
     rw[F7 c]at bR
     exact oB ht (s_end (bR _ _ _ trivial (Pg _ M.ext) ⟨_,rfl,M⟩))
    ·rw[show(decide (t∈[sS,sT])||decide (t∈ns))=false from by simpa using c]at ht
     rw[G0 c,C1]at bR
     refine qL ht (N4 (aG 1 M rfl rfl rfl (by rw[A8];lia) λ bK _ M2=>s_end (s_end (bR _ _ _ trivial (Pg _ M2.ext) ⟨_,rfl,M2⟩))))
   ·intro ρ S7 hQ;intros hQ w hZ;obtain rfl:=hZ.1;delta hZ hZ M
    exact s_end (hR _ _ _ trivial (st _ _ L3.ext M.ext) ⟨_,_,_,rfl,by rw[e];exact M⟩)
  ·intro ρ B9 hQ;intros hQ y hZ;intros hZ z Q0;intros Q0 w P4;clear j8 L3 c3 Li;obtain rfl:=P4.1;delta P4 P4 L
   have tz:(V3 [sS,sT] ps).length<=3+3*ps.length:=DS _ ps ok.parts yA
   have Bf:(Q8 ps).names=V3 [sS,sT] ps++[Str.ofString "$accept"]++[sS,sT]:=rfl
   have Wp:(Q8 ps).tc=(V3 [sS,sT] ps).length:=rfl
   have Zy:(Q8 ps).rules=⟨(Q8 ps).tc,[(Q8 ps).names.idxOf sS,0]⟩::ps.map λ x=>⟨(Q8 ps).names.idxOf x.1.1,x.1.2.map (Q8 ps).names.idxOf⟩:=rfl
   have wn:=ok.wf.names
   have mS:sS∈(Q8 ps).names:=by rw[Bf];simp
   have mL:∀x∈ps,x.1.1∈(Q8 ps).names:=λ x hx=>by rcases ok.left x hx with h|h<;>(rw[h,Bf];simp)
   have ix:∀{x:Str} {B9:PH} {c:Addr} {R:PV->PH->Prop} (_:x∈(Q8 ps).names),B9 c=some (.list ((Q8 ps).names.map .str))->R (C0 ((Q8 ps).names.idxOf x)) B9->J9 W (n+2) (.builtin "list.index") [.ref c,.str x] B9 R:=λ hm hc hR=>Co hc (XO hm).1 (XO hm).2 (by lia) hR
   refine P3 (x:=C0 (Q8 ps).tc) ?_ (K1 (O6 (O6 (P2 rfl (K7 L rfl λ c7 bK L4=>gG L4 (L4.get 1 rfl) (L4.get 2 rfl) (by simp;lia) λ c8 cH L5=>P2 rfl (gG L5 (L5.get 3 rfl) (L5.get 0 rfl) (by simp;lia) λ c9 eK L6=>?_))))))
   ·exact V8 rfl (len_list (L.get 1 rfl) (A8 ..))
   have L7:Led σ eK [(c9,.list ((Q8 ps).names.map .str))] []:=L6.sub (by
    rw[Bf,C1,C1]
    exact List.Sublist.cons _ (.cons _ (.cons _ (.cons _ (.refl _)))))
   show S8 W tb (n+2) _ [.ref pl,.none,.ref c2,y,z,.str sS,.ref c9,w,C0 (Q8 ps).tc,.M7,.M7] eK _
   clear L4 L5 L6 L st
   have f7:=L7.get 0 rfl
   have Gz:(Q8 ps).rules[0]? =some ⟨(Q8 ps).tc,[(Q8 ps).names.idxOf sS,0]⟩:=rfl
   refine K1 (bP (F9 (T5 (F9 (P2 rfl (F9 (P2 rfl (F9 (dK (F9 (J1 rfl (N9 f7 _) rfl (ix mS f7 (F9 (P2 rfl (M0 (F9 (P2 rfl (M0 (ZV (n:=n) P (i:=0) (r:=⟨(Q8 ps).tc,[(Q8 ps).names.idxOf sS,0]⟩) (l:=0) λ a0 eW E7 h7 R0=>M0 λ ZY Lj=>?_)))))))))))))))))))
   have L8:=(L7.grow E7).alloc Lj (.list (refs [a0]))
   have R8:=R0.ext (Ext.new Lj (.list (refs [a0])))
   show S8 W tb (n+2) _ [.ref pl,.none,.ref c2,y,z,.str sS,.ref c9,w,C0 (Q8 ps).tc,.ref ZY,.M7] (eW.set ZY (.list (refs [a0]))) _
   generalize eW.set ZY (.list (refs [a0]))=qB at L8 R8
   clear R0 h7 Lj E7 L7 f7
   refine GF (l:=ps) (f:=Hf) (v:=.ref pl) (λ pre ρ B9=>∃(y z v:PV) (ra:List Addr),ρ=[.ref pl,.none,.ref c2,y,z,.str sS,.ref c9,w,C0 (Q8 ps).tc,.ref ZY,v]∧Led σ B9 [(c9,.list ((Q8 ps).names.map .str)),(ZY,.list (refs ra))] []∧
    ra.length=pre.length+1∧∀i b r,ra[i]? =some b->(Q8 ps).rules[i]? =some r->aB B9 b i r) rfl (V6 (L8.ext _ _ hP.1) (by rw[A8];lia)) (λ _ _=>rfl) ⟨y,z,.M7,[a0],rfl,L8,rfl,λ i b r h1 h2=>?_⟩ ?_ ?_
   ·cases i with
    |zero=>cases h1;rw[Gz]at h2;cases h2;exact R8
    |succ=>simp at h1
   ·intro pre x post ρ B9 R hl hQ;intros hQ y hZ;intros hZ z Q0;intros Q0 v P4;intros P4 ra fT;clear R8 c6 c7 c8 Bf Wp Gz tz wn eK eW;obtain rfl:=fT.1;delta fT fT M Tw Xh;intro hR
    have hx:x∈ps:=by rw[hl];simp
    have xz:=ok.parts x hx
    have Vr:pre.length<ps.length:=by rw[hl];simp
    have hg:(Q8 ps).rules[ra.length]? =some ⟨(Q8 ps).names.idxOf x.1.1,x.1.2.map (Q8 ps).names.idxOf⟩:=by
     rw[Tw,Zy,gM,H9,hl,N2 (D7 _)]
     simp
    refine K1 (T5 (F9 (gS (l:=x.1.2) (f:=.str) (g:=λ y=>C0 ((Q8 ps).names.idxOf y)) (ys:=λ y=>[.str y]) M (v:=.ref x.2) rfl (V6 (M.ext _ _ (hP.2 x hx)) (by rw[A8];lia)) (λ _ _=>rfl)
     (λ y hy R hR=>J1 rfl (N9 (M.get 0 rfl) _) rfl (ix (ok.mem x hx y hy) (M.get 0 rfl) hR)) λ j4 W9 E2 M2=>M0 (mN (M2.get 2 rfl) (by rw[A8];lia) ?_))))
    rw[show x.1.2.map (λ y=>C0 ((Q8 ps).names.idxOf y))=(x.1.2.map (Q8 ps).names.idxOf).map C0 from by rw[G2];rfl]at M2 ⊢
    have M3:=Led.drop (X:=[(j4,_)]) (L:=[(c9,_),(ZY,_)]) M2
    have g9:=M3.get 0 rfl
    refine N4 (T0 rfl (N9 (M3.get 1 rfl) _) (F9 (T5 (F9 (P2 (x:=C0 ra.length) ?_ (F9 (J1 rfl (N9 g9 _) rfl (ix (mL x hx) g9 (F9 (P2 rfl (F9 (H7 rfl (yI P (rs:=x.1.2.map (Q8 ps).names.idxOf) (by rw[A8];lia) λ lt=>M0 (ZV (n:=n) P (i:=ra.length) (r:=⟨(Q8 ps).names.idxOf x.1.1,x.1.2.map (Q8 ps).names.idxOf⟩) (l:=lt) λ a1 Y8 E3 h3 R1=>M0 ?_))))))))))))))
    ·exact V8 rfl (len_list (M3.get 1 rfl) (A8 ..))
    ·have M4:=M3.grow E3
     refine aW 1 M4 rfl (by rw[A8];lia) λ bK O4 M5=>s_end (hR _ _ _ trivial (by show bK pl=qB pl;rw[M5.ext _ _ hP.1,L8.ext _ _ hP.1]) ⟨_,_,_,ra++[a1],rfl,by rw[refs,C1];exact M5,by simp[Tw],λ i b r h1 h2=>?_⟩)
     rw[List.getElem?_append]at h1
     split at h1
     ·exact(((Xh i b r h1 h2).ext E2).ext E3).obs O4
     ·rename_i c
      have:i=ra.length:=by
       have:=(D3.mp h1).1
       simp at this;lia
      clear E2 E3 L8 M2 M3 M4 M5 a0 c j4 g9 h3 hP hR hl hx lt mL pl post Vr w xz W9 qB;subst this
      rw[hJ]at h1
      cases h1
      rw[hg]at h2;cases h2
      exact R1.obs O4
   ·intro ρ B9 hQ;intros hQ y hZ;intros hZ z Q0;intros Q0 v P4;intros P4 ra fT;obtain rfl:=fT.1;delta fT fT M Tw Xh
    have fM:ra.length=(Q8 ps).rules.length:=by rw[Tw,Zy];simp
    refine W3 (T5 (F9 (P2 rfl (F9 (P2 rfl (F9 (P2 rfl (F9 (OW λ fw Rd=>?_)))))))))
    have M6:=M.alloc Rd (.dict [] 0)
    have E6:=Ext.new Rd (.dict [] 0)
    refine F9 (P2 rfl (F9 (J1 rfl (N9 (M6.get 0 rfl) _) rfl (ix mS (M6.get 0 rfl) (M0 (UK (n:=n) P ok.wf (M6.get 0 rfl) (M6.get 1 rfl) fM (λ i b r h1 h2=>(Xh i b r h1 h2).ext E6) (M6.get 2 rfl) λ g cH E5 G5=>q g cH (M6.ext.trans E5) G5))))))
end
def zP(W:Wd)(n:Nat)(r:V0)(K:Fl->List PV->PH->Prop):Fl->List PV->PH->Prop:=λ fl O5 B9=>match fl with
  |.next=>S8 W tb n r O5 B9 K
  |.brk=>K .brk O5 B9
  |.cont=>K .cont O5 B9
  |.ret v=>K (.ret v) O5 B9
section
variable{W:Wd}{n:Nat}{σ:PH}{ρ:List PV}{r b b':V0}{K:Fl->List PV->PH->Prop}{Q:PV->PH->Prop}{B:Bool->PH->Prop}{e e' KC:PE}{i:Nat}{x v:PV}
theorem O7(h:S8 W tb n r ρ σ K):S8 W tb n .nil ρ σ (zP W n r K):=h
theorem MG(h:K .cont ρ σ):S8 W tb n (.cons .cont b) ρ σ (zP W n r K):=h
theorem qR(h:(wp W tb n e).v ρ σ λ x B4=>K (.ret x) ρ B4):S8 W tb n (.cons (.ret e) b) ρ σ (zP W n r K):=h
theorem cZ{t:Bool}(h:pt σ ρ e=some t)(hT:t=true->S8 W tb n b ρ σ (zP W n r K))(hF:t=false->S8 W tb n b' ρ σ (zP W n r K)):S8 W tb n (.cons (.ite e b b') r) ρ σ K:=Jq h (by clear h;cases t;exact hF rfl;exact hT rfl)
theorem f_1{α:Type}{l:List α}{f:α->PV}{y:PV}{F:PV->List PV}(I:List α->PV->PH->Prop)(HB:ρ=F y)(h:pv σ ρ e=some v)(hv:mB σ v (l.map f))(h0:I [] y σ)
  (hs:∀pre x post y B9 (R:Fl->List PV->PH->Prop),l=pre++x::post->I pre y B9->(∀fl y B9,fl.go->M9 σ v B9->I (pre++[x]) y B9->R fl (F y) B9)->S8 W tb n b ((F y).set i (f x)) B9 R)
  (hk:∀y σ,I l y σ->S8 W tb n r (F y) σ K):S8 W tb n (.cons (.R6 i e b) r) ρ σ K:=
 oC (λ pre ρ σ=>∃y,ρ=F y∧I pre y σ) h hv ⟨y,HB,h0⟩ (λ pre x post ρ B9 R e ⟨y,e',h⟩ k=>e'▸hs pre x post y B9 R e h λ fl y B9 g s h=>k fl _ B9 g s ⟨y,rfl,h⟩) λ ρ σ ⟨y,e',h⟩=>e'▸hk y σ h
theorem f_2{α:Type}{l:List α}{f:α->PV}{y z:PV}{F:PV->PV->List PV}(I:List α->PV->PV->PH->Prop)(HB:ρ=F y z)(h:pv σ ρ e=some v)(hv:mB σ v (l.map f))(h0:I [] y z σ)
  (hs:∀pre x post y z B9 (R:Fl->List PV->PH->Prop),l=pre++x::post->I pre y z B9->(∀fl y z B9,fl.go->M9 σ v B9->I (pre++[x]) y z B9->R fl (F y z) B9)->S8 W tb n b ((F y z).set i (f x)) B9 R)
  (hk:∀y z σ,I l y z σ->S8 W tb n r (F y z) σ K):S8 W tb n (.cons (.R6 i e b) r) ρ σ K:=
 oC (λ pre ρ σ=>∃y z,ρ=F y z∧I pre y z σ) h hv ⟨y,z,HB,h0⟩ (λ pre x post ρ B9 R e ⟨y,z,e',h⟩ k=>e'▸hs pre x post y z B9 R e h λ fl y z B9 g s h=>k fl _ B9 g s ⟨y,z,rfl,h⟩) λ ρ σ ⟨y,z,e',h⟩=>e'▸hk y z σ h
theorem f_3{α:Type}{l:List α}{f:α->PV}{y z w:PV}{F:PV->PV->PV->List PV}(I:List α->PV->PV->PV->PH->Prop)(HB:ρ=F y z w)(h:pv σ ρ e=some v)(hv:mB σ v (l.map f))(h0:I [] y z w σ)
  (hs:∀pre x post y z w B9 (R:Fl->List PV->PH->Prop),l=pre++x::post->I pre y z w B9->(∀fl y z w B9,fl.go->M9 σ v B9->I (pre++[x]) y z w B9->R fl (F y z w) B9)->S8 W tb n b ((F y z w).set i (f x)) B9 R)
  (hk:∀y z w σ,I l y z w σ->S8 W tb n r (F y z w) σ K):S8 W tb n (.cons (.R6 i e b) r) ρ σ K:=
 oC (λ pre ρ σ=>∃y z w,ρ=F y z w∧I pre y z w σ) h hv ⟨y,z,w,HB,h0⟩ (λ pre x post ρ B9 R e ⟨y,z,w,e',h⟩ k=>e'▸hs pre x post y z w B9 R e h λ fl y z w B9 g s h=>k fl _ B9 g s ⟨y,z,w,rfl,h⟩) λ ρ σ ⟨y,z,w,e',h⟩=>e'▸hk y z w σ h
end
section
variable{W:Wd}{n:Nat}{σ C8:PH}{ρ:List PV}{e e':PE}{v w x:PV}{Q:PV->PH->Prop}{L R:List (Addr×PO)}
theorem V5{α β:Type}{f:α->β}{l:List α}{k:Nat}{y:α}(h:l[k]? =some y):(l.map f)[k]? =some (f y):=by rw[H9,h];rfl
theorem HQ{a:Addr}{xs:List PV}(hL:Led C8 σ L R)(e:σ a=some (.list xs))(hz:xs.length<=2^24)(k:∀c B9,Ext σ B9->Led C8 B9 (L++[(c,.list xs)]) R->Q (.ref c) B9):J9 W n (.type "list") [.ref a] σ Q:=
 pG e hz λ c hc=>k c _ (Ext.new hc _) (hL.alloc hc _)
end
inductive de(G:Gr)(σ:PH)(c2 c3 c4 c5:Addr)(l:List Addr)(k b m:Nat)(B9:PH):Prop
 |mk (fd:List Bool) (lk:List Int) (f:Nat->List Nat) (qu:List Nat) (hf:fd.length=G.names.length) (hl:lk.length=k) (hu:∀s,∀x∈f s,x<G.rules.length) (hb:∀s,(f s).length<=b) (hq:∀x∈qu,x<G.names.length)
  (hm:fd.countP (!·)+qu.length=m) (L:Led σ B9 [(c2,.list (fd.map .bool)),(c3,.list (lk.map .int)),(c4,.list (refs l)),(c5,.list (qu.map C0))] (lZ l λ s=>(f s).map C0))
inductive j6(G:Gr)(σ:PH)(c2 c3 c4 c5:Addr)(l:List Addr)(f:Nat->List Nat)(m:Nat)(B9:PH)(qz:Nat):Prop
 |mk (fd:List Bool) (lk:List Int) (qu:List Nat) (hf:fd.length=G.names.length) (hl:lk.length=G.rules.length) (hq:∀x∈qu,x<G.names.length) (hz:qz<=qu.length)
  (hm:fd.countP (!·)+qu.length=m) (L:Led σ B9 [(c2,.list (fd.map .bool)),(c3,.list (lk.map .int)),(c4,.list (refs l)),(c5,.list (qu.map C0))] (lZ l λ s=>(f s).map C0))
theorem countP_set{fd:List Bool}{i:Nat}(h:fd[i]? =some false):(fd.set i true).countP (!·)+1=fd.countP (!·):=by
 induction fd generalizing i with
 |nil=>simp at h
 |cons b r ih=>
  cases i with
  |zero=>simp at h;subst h;simp
  |succ i=>have:=ih (by simpa using h);simp only[gC,List.countP_cons];lia
theorem W8{α:Type}{σ:PH}{a:Addr}{l:List α}{f:α->PV}{i:Nat}(d:α)(h:σ a=some (.list (l.map f)))(hi:i<l.length):gD σ (.ref a) (C0 i)=some (f (l.getD i d)):=I0 h (V5 (by rw[C2,C4 hi];rfl))
theorem W5{α:Type}{l:List α}{i:Nat}(d:α)(hi:i<l.length):l[i]? =some (l.getD i d):=by rw[C2,C4 hi];rfl
theorem P5{α:Type}{l pre post:List α}{x:α}(h:l=pre++x::post):pre.length<l.length∧x∈l:=by subst h;exact⟨by simp,by simp⟩
theorem lz{α β:Type}{l:List α}{f:α->β}{k:Nat}(h:l.length=k)(hk:k<=16777216):(l.map f).length<=2^24:=by rw[A8];exact A9 (X0 h) hk
theorem GV{α β:Type}{l:List α}{f:α->β}{k:Nat}(h:l.length<=k)(hk:k<=16777216):(l.map f).length<=2^24:=by rw[A8];exact A9 h hk
theorem Cp{α β:Type}{l:List α}{f:α->β}{i k:Nat}(h:l.length=k)(hi:i<k):i<(l.map f).length:=by rw[A8,h];exact hi
theorem VU{α β:Type}{l:List α}{f:α->β}(i:Nat)(y:α){C:List β->Prop}(h:C ((l.map f).set i (f y))):C ((l.set i y).map f):=by rw[hY];exact h
theorem UQ{α β:Type}{l:List α}{f:α->β}(y:α){C:List β->Prop}(h:C (l.map f++[f y])):C ((l++[y]).map f):=by rw[C1];exact h
theorem Sn{a b:Bool}(h:(a&&!b)=true):b=false:=by cases b;rfl;rw[Bool.not_true,Bool.and_false]at h;cases h
theorem T8{α:Type}{p:α->Prop}{l:List α}{x:α}(h:∀y∈l,p y)(hx:p x):∀y∈l++[x],p y:=λ y hy=>by
 rcases G8.mp hy with h'|h'
 ·exact h y h'
 ·rw[D5.mp h'];exact hx
section
variable{W:Wd}(P:dQ W){n:Nat}{σ:PH}{g:Addr}{G:Gr}(hG:pZ σ g G)(w:G.Wf){Q:PV->PH->Prop}
include P hG w
omit P in
theorem zT:∃a ra,fld σ (.ref g) "rules"=some (.ref a)∧σ a=some (.list (refs ra))∧ra.length=G.rules.length∧mB σ (.ref a) ((List.range G.rules.length).map λ i=>.ref (ra.getD i 0))∧∀i,i<G.rules.length->∃r,G.rules[i]? =some r∧r∈G.rules∧aB σ (ra.getD i 0) i r:=by
 refine ee2.e (hG.rules) λ a ra hZ=>?_;delta hZ h1 h2 h3 h4
 have:=w.rules
 refine⟨a,ra,h1,h2,h3,V6 (by rw[h2,fG,h3]) (by simp;lia),λ i hi=>?_⟩
 have hg:G.rules[i]? =some G.rules[i]:=C4 hi
 exact⟨_,hg,B5 hg,h4 i _ _ (by rw[C2,C4 (by lia)];rfl) hg⟩
theorem ZO{kn:Addr}{bs:List Bool}(hk:σ kn=some (.list (bs.map .bool)))(hz:bs.length=G.names.length)
  (q:∀c B9 (fd:List Bool),Ext σ B9->σ c=none->fd.length=G.names.length->B9 c=some (.list (fd.map .bool))->Q (.ref c) B9):J9 W (n+1) (.ref 209) [.ref g,.ref kn] σ Q:=by
 have wn:=w.names
 have wr:=w.rules
 have zn:G.names.length<=16777216:=A9 wn (by decide)
 have zr:G.rules.length<=16777216:=A9 wr (by decide)
 refine ee2.e (zT hG w) λ ru ra hZ=>?_;delta hZ r1 r2 r3 r4 r5
 refine P.fn IX 13 rfl (ρ:=[.ref g,.ref kn,.M7,.M7,.M7,.M7,.M7,.M7,.M7,.M7,.M7,.M7]) rfl ?_
 refine K1 (H7 rfl (HQ (Led.start σ) hk (lz hz zn) λ c2 aK _ L1=>K1 (K7 L1 rfl λ c3 W9 L2=>K1 (FS L2 (v:=.ref c2) (xs:=bs.map .bool) rfl (V6 (L2.get 0 rfl) (lz hz zn)) (λ y hy=>⟨[y],rfl⟩) λ c4 Y8 l hl L3=>K1 (K7 L3 rfl λ c5 bK L4=>?_)))))
 rw[A8,hz]at hl
 have V4:∀{B9:PH} {L R:List (Addr×PO)},Led σ B9 L R->M9 bK (.ref ru) B9:=λ h=>(h.ext _ _ r2).trans (L4.ext _ _ r2).symm
 have To:∀{B9:PH},Ext σ B9->mB B9 (.ref ru) ((List.range G.rules.length).map λ i=>.ref (ra.getD i 0)):=λ E=>V6 (by rw[E _ _ r2,fG,r3]) (by simp;lia)
 have row:=λ s hs=>W5 (l:=l) (i:=s) 0 (Nat.lt_of_lt_of_eq hs hl.symm)
 let F:PV->PV->PV->PV->PV->PV->List PV:=λ a b c d e f=>[.ref g,.ref kn,.ref c2,.ref c3,.ref c4,.ref c5,a,b,c,d,e,f]
 let J:=de G σ c2 c3 c4 c5 l
 refine f_3 (v:=.ref ru) (F:=λ a b c=>F a b c .M7 .M7 .M7) (λ pre _ _ _ B9=>J pre.length (4*pre.length) (bs.countP (!·)) B9) rfl (D8 rfl (U8 L4.ext r1)) (To L4.ext)
  (.mk bs [] (λ _=>[]) [] hz rfl (λ _ _ h=>(nomatch h)) (λ _=>D7 _) (λ _ h=>(nomatch h)) rfl L4) ?_ ?_
 ·intro pre i post v6 v7 v8 B9 R vT hQ;clear L1 L2 L4 P hG hk hl r4 wn zr W9;obtain⟨fd,lk,f,qu,hf,yD,hu,hb,hq,hm,L⟩:=hQ;intro hR
  have hZ:=P9 vT;delta hZ hp hi
  have TH:pre.length=i:=by rw[hp];simp
  refine A0 (r5 i hi) λ r hZ=>?_;delta hZ hZ LE ir
  have w3:=w.len r LE
  refine P3 rfl (f_2 (l:=r.right) (f:=C0) (v:=.tup (r.right.map C0)) (F:=λ a b=>F (.ref (ra.getD i 0)) a b .M7 .M7 .M7) (λ p2 y _ S7=>∃m,y=.int m∧J pre.length (4*pre.length+p2.length) (bs.countP (!·)) S7) rfl
   (D8 rfl ((ir.ext L.ext).right)) (rN (GV w3 (by decide))) ⟨_,rfl,.mk fd lk f qu hf yD hu hb hq hm L⟩ ?_ ?_)
  ·intro p2 s iG _ v8 S7 R2 fM hQ;intros hQ m hZ;obtain rfl:=hZ.1;obtain⟨fd,lk,f,qu,hf,yD,hu,hb,hq,hm,L⟩:=hZ.2;try clear hZ;intro bR
   have Hv:=P5 fM
   have hs:=w.sym r LE s Hv.2
   have ha:=row s hs
   refine cZ (MK (AC (I8 rfl rfl (W8 false (L.get 0 rfl) (hf.symm▸hs))))) (λ _=>?_) λ _=>O7 (bR .next _ _ _ trivial trivial ⟨_,rfl,.mk fd lk f qu hf yD hu (λ s=>A9 (hb s) (bV (by rw[B0];exact J6 ..) _)) hq hm L⟩)
   have h1:=hb s;have h2:=Hv.1
   refine P3 (x:=.int (m+1)) rfl (N4 (LO (x:=C0 i) (i:=s) L (aC ha) (I8 rfl rfl (I0 (L.get 2 rfl) (V5 ha))) (D8 rfl ((ir.ext L.ext).number)) (GV h1 (by lia)) λ cH _ L5=>O7 (bR .next _ _ _ trivial trivial ⟨_,rfl,?_⟩)))
   rw[yT ha]at L5
   refine .mk fd lk (λ j=>if j=s then f s++[i]else f j) qu hf yD (λ j=>?_) (λ j=>?_) hq hm ((gU λ j _=>?_)▸L5)
   ·split
    ·exact T8 (hu s) hi
    ·exact hu j
   ·have h2:=hb j
    rw[B0,X9]
    split
    ·rw[B0,X9];lia
    ·lia
   ·split
    ·rename_i e;clear h1 h2 Hv;clear L5 bR ha fM;subst e;exact(C1 (f:=C0) (l₂:=[i])).symm
    ·rfl
  ·intro _ v8 S7 hQ;intros hQ m hZ;obtain rfl:=hZ.1;obtain⟨fd,lk,f,qu,hf,yD,hu,hb,hq,hm,L⟩:=hZ.2;try clear hZ
   refine N4 (aG 1 (x:=.int m) L rfl rfl rfl (lz yD (by lia)) λ cH _ L5=>s_end (hR .next _ _ _ _ trivial (V4 L5) (.mk fd (lk++[m]) f qu hf (by rw[B0,B0,yD];rfl) hu (λ s=>A9 (hb s) (by rw[B0,X9];lia)) hq hm (UQ (C:=λ z=>Led σ cH [_,(c3,.list z),_,_] _) m L5))))
 ·intro v6 v7 v8 B9 I
  rw[D9]at I
  have E4:Ext σ B9:=let⟨_,_,_,_,_,_,_,_,_,_,L⟩:=I;L.ext
  have V4:∀{cH:PH} {L R:List (Addr×PO)},Led σ cH L R->M9 B9 (.ref ru) cH:=λ h=>(h.ext _ _ r2).trans (E4 _ _ r2).symm
  have cb:bs.countP (!·)<=G.names.length:=A9 List.countP_le_length (X0 hz)
  refine f_1 (v:=.ref ru) (F:=λ a=>F a v7 v8 .M7 .M7 .M7) (λ pre _ B9=>J G.rules.length (4*G.rules.length) (bs.countP (!·)) B9) rfl (D8 rfl (U8 E4 r1)) (To E4) I ?_ ?_
  ·intro pre i post v6 S7 R vT hQ;clear E4 L1 L2 L4 P hG hk hl To r4 wn wr zr W9;obtain⟨fd,lk,f,qu,hf,yD,hu,hb,hq,hm,L⟩:=hQ;intro hR
   have hZ:=P9 vT;delta hZ hp hi
   refine A0 (r5 i hi) λ r hZ=>?_;delta hZ hZ LE ir
   have hs:=w.left r LE
   have Dd:=W5 (l:=fd) (i:=r.left) false (hf.symm▸hs)
   refine cZ (t:=decide (lk.getD i 0=0)&&!fd.getD r.left false) (jP (N3 (I8 rfl (D8 rfl ((ir.ext L.ext).number)) (W8 0 (L.get 1 rfl) (yD.symm▸hi))) rfl rfl) (MK (AC (I8 rfl (D8 rfl ((ir.ext L.ext).left)) (I0 (L.get 0 rfl) (V5 Dd)))))) (λ hc=>?_) λ _=>O7 (hR .next _ _ trivial (V4 L) (.mk fd lk f qu hf yD hu hb hq hm L))
   rw[Sn hc]at Dd
   have cp:=countP_set Dd
   exact mV 0 L rfl (x:=.bool true) rfl rfl (D8 rfl ((ir.ext L.ext).left)) (Cp hf hs) λ cH _ L5=>N4 (aG 3 (x:=C0 r.left) L5 rfl rfl (D8 rfl ((ir.ext L5.ext).left)) (GV (A9 (Z9 ..) (X0 hm)) (A9 cb zn)) λ eK _ L6=>O7 (hR .next _ _ trivial (V4 L6) (.mk (fd.set r.left true) lk f (qu++[r.left]) ((O9 ..).trans hf) yD hu hb (T8 hq hs) (by rw[B0,X9];lia)
    (UQ (C:=λ z=>Led σ eK [(c2,.list (List.map _ (fd.set r.left true))),_,_,(c5,.list z)] _) r.left (VU (C:=λ z=>Led σ eK [(c2,.list z),_,_,_] _) r.left true L6)))))
  ·intro v6 S7 hQ;clear E4 L1 L2 L4 P hG hk hl To r4 V4 wn zr W9;obtain⟨fd,lk,f,qu,hf,yD,hu,hb,hq,hm,L⟩:=hQ
   generalize bs.countP (!·)=M at hm cb
   refine P3 rfl (PL (I:=λ k ρ B9=>∃(t:Nat) (v10 v11:PV),ρ=F v6 v7 v8 (C0 t) v10 v11∧k=M - t∧j6 G σ c2 c3 c4 c5 l f M B9 t) M ⟨0,_,_,rfl,rfl,.mk fd lk qu hf yD hq (K3 _) hm L⟩ ?_)
   clear hf yD hq hm L
   intro k ρ aK R hQ;intros hQ t hZ;intros hZ v10 Q0;intros Q0 v11 P4;clear I V4 S7 bK;obtain⟨rfl,rfl,fd,lk,qu,hf,yD,hq,hz,hm,L⟩:=P4;intro hR
   refine uS (N3 (b:=decide ((t:Int)<(qu.length:Int))) rfl (V8 rfl (len_list (L.get 3 rfl) (A8 ..))) rfl) ?_
   by_cases c:t<qu.length
   ·rw[H3 (T7.mpr c)]
    have sz:=hq _ (sJ c)
    have hs:=C4 c
    generalize qu[t]=s at hs sz
    have ha:=row s sz
    have Xd:=hb s
    have ea:=L.HE (aC ha)
    refine f_2 (l:=f s) (f:=C0) (v:=.ref (l.getD s 0)) (F:=λ a b=>F v6 v7 v8 (C0 t) a b) (λ _ _ _ B9=>j6 G σ c2 c3 c4 c5 l f M B9 (t+1)) rfl (I8 rfl (I8 rfl rfl (I0 (L.get 3 rfl) (V5 hs))) (I0 (L.get 2 rfl) (V5 ha))) (V6 ea (GV Xd (by lia))) (.mk fd lk qu hf yD hq c hm L) ?_ ?_
    ·clear L hf yD hq hz hm hs c
     intro pre x post v10 v11 B9 R2 fM hQ;clear hb Xd row sz;obtain⟨fd,lk,qu,hf,yD,hq,hz,hm,L⟩:=hQ;intro bR
     have Hu:∀{cH:PH} {L5:List (Addr×PO)},Led σ cH L5 (lZ l λ s=>(f s).map C0)->M9 aK (.ref (l.getD s 0)) cH:=λ h=>(h.HE (aC ha)).trans ea.symm
     have hx:x<G.rules.length:=hu s x (P5 fM).2
     refine A0 (r5 x hx) λ r hZ=>?_;delta hZ hZ LE ir
     have BJ:=w.left r LE
     have rg:(refs ra)[x]? =some (.ref (ra.getD x 0)):=V5 (W5 0 (r3.symm▸hx))
     refine mV 1 L rfl (x:=.int (lk.getD x 0 - 1)) (jJ (I8 rfl rfl (W8 0 (L.get 1 rfl) (yD.symm▸hx))) rfl rfl) rfl rfl (Cp yD hx) λ Y8 _ L3=>P3 (D8 (I8 (D8 rfl (U8 L3.ext r1)) rfl (I0 (L3.ext _ _ r2) rg)) ((ir.ext L3.ext).left)) ?_
     replace L3:=VU (C:=λ z=>Led σ Y8 [_,(c3,.list z),_,_] _) x (lk.getD x 0 - 1) L3
     have l2:=(O9 (as:=lk) (i:=x) (a:=lk.getD x 0 - 1)).trans yD
     generalize lk.set x (lk.getD x 0 - 1)=Wg at L3 l2
     have Dd:=W5 (l:=fd) (i:=r.left) false (hf.symm▸BJ)
     refine cZ (t:=decide (Wg.getD x 0=0)&&!fd.getD r.left false) (jP (N3 (I8 rfl rfl (W8 0 (L3.get 1 rfl) (l2.symm▸hx))) rfl rfl) (MK (AC (I8 rfl rfl (I0 (L3.get 0 rfl) (V5 Dd)))))) (λ hc=>?_) λ _=>O7 (bR .next _ _ _ trivial (Hu L3) (.mk fd Wg qu hf l2 hq hz hm L3))
     rw[Sn hc]at Dd
     have cp:=countP_set Dd
     exact mV 0 L3 rfl (x:=.bool true) rfl rfl rfl (Cp hf BJ) λ cH _ L5=>N4 (aG 3 (x:=C0 r.left) L5 rfl rfl rfl (GV (A9 (Z9 ..) (X0 hm)) (A9 cb zn)) λ eK _ L6=>O7 (bR .next _ _ _ trivial (Hu L6) (.mk (fd.set r.left true) Wg (qu++[r.left]) ((O9 ..).trans hf) l2 (T8 hq BJ) (A9 hz (by rw[B0];exact J6 ..)) (by rw[B0,X9];lia)
      (UQ (C:=λ z=>Led σ eK [(c2,.list (List.map _ (fd.set r.left true))),_,_,(c5,.list z)] _) r.left (VU (C:=λ z=>Led σ eK [(c2,.list z),_,_,_] _) r.left true L6)))))
    ·intro v10 v11 B9 J'
     have Db:t<M:=by clear L3 cb ea ha hb Xd yD hm hq hs hu hz r1 r2 r3 r5 ra row ru sz v10 v11 w zn Y8;cases J';lia
     exact P3 (x:=C0 (t+1)) rfl (s_end (hR .next _ _ (M - (t+1)) trivial (Nat.sub_lt_sub_left Db (K5 t)) ⟨t+1,_,_,rfl,rfl,J'⟩))
   ·rw[J8 (λ h=>c (T7.mp h))]
    exact X7 rfl (q c2 aK fd L.ext (L.new _ (.head _)) hf (L.get 0 rfl))
end
def cT(l:List Nat)(m o:Nat):List Nat:=if l.getD o 0/2^m%2=1 then l.set o (l.getD o 0|||l.getD m 0)else l
def Tb(l:List Nat):List Nat:=(List.range l.length).foldl (λ l m=>(List.range l.length).foldl (λ l o=>cT l m o) l) l
theorem zJ(l:List Nat)(m o:Nat):(cT l m o).length=l.length:=by unfold cT;split<;>simp
theorem dS(m:Nat):∀(os:List Nat) (l:List Nat),(os.foldl (λ l o=>cT l m o) l).length=l.length
 |[],_=>rfl
 |o::os,l=>by rw[J0,dS m os,zJ]
theorem getD_at{l:List Nat}{i:Nat}(h:i<l.length):l[i]? =some (l.getD i 0):=by rw[C2,C4 h];rfl
theorem Ab(x m:Nat):Builtin.bitAnd (Int.fdiv (x:Int) (2^(m:Int).toNat)) 1=((x/2^m%2:Nat):Int):=by
 rw[show((2:Int)^(m:Int).toNat)=((2^m:Nat):Int)from by rw[aZ];simp,JW,show(1:Int)=((1:Nat):Int)from rfl,rV,Nat.and_one_is_mod]
abbrev qI(l:List Nat)(m:Nat):List Nat:=(List.range l.length).foldl (λ l o=>cT l m o) l
theorem lP:∀(ms:List Nat) (l:List Nat),(ms.foldl qI l).length=l.length
 |[],_=>rfl
 |m::ms,l=>by rw[J0,lP ms];exact dS ..
theorem mz{α β:Type}{l:List α}{f:α->β}{k:Nat}(h:l.length<=k)(hk:Nat.ble k 16777216=true):(l.map f).length<=2^24:=by
 rw[A8];exact A9 h (C3 hk)
theorem qS{α:Type}{σ:PH}{a:Addr}{l:List α}{f:α->PV}{k:Nat}(h:σ a=some (.list (l.map f)))(hz:l.length<=k)(hk:Nat.ble k 16777216=true):mB σ (.ref a) (l.map f):=V6 h (mz hz hk)
section
variable{W:Wd}(P:dQ W){n:Nat}{σ:PH}{Q:PV->PH->Prop}
include P
theorem HL{a:Addr}{l:List Nat}(h:σ a=some (.list (l.map C0)))(hz:l.length<=20)(q:∀c B9,Ext σ B9->B9 c=some (.list ((Tb l).map C0))->Q (.ref c) B9):J9 W (n+1) (.ref 223) [.ref a] σ Q:=by
 refine P.fn tG 15 rfl (ρ:=[.ref a,.M7,.M7,.M7]) rfl (K1 (H7 rfl (HQ (Led.start σ) h (mz hz rfl) λ c aK _ L1=>?_)))
 have Yw:∀{k:Nat},k=l.length->k<=2^24:=λ h=>h▸A9 hz (by decide)
 refine uX (H7 (xs:=[C0 l.length]) (p1 (V8 rfl (len_list (L1.get 0 rfl) (A8 ..)))) (aP ⟨_,fH (k:=l.length) (Yw rfl),eC (λ pre ρ B9=>∃v2 v3:PV,ρ=[.ref a,.ref c,v2,v3]∧Led σ B9 [(c,.list ((pre.foldl qI l).map C0))] []) ⟨_,_,rfl,L1⟩ ?_ ?_⟩))
 ·intro pre m post ρ B9 R vT hQ;intros hQ v2 hZ;intros hZ v3 Q0;obtain rfl:=Q0.1;delta Q0 Q0 L;intro hR
  have hm:=(P9 vT).2
  rw[cG]at hR
  have hl:=lP pre l
  generalize pre.foldl qI l=k at L hR hl
  refine uX (H7 (xs:=[C0 k.length]) (p1 (V8 rfl (len_list (L.get 0 rfl) (A8 ..)))) (aP ⟨_,fH (k:=k.length) (Yw hl),eC (λ pre ρ B9=>∃v3:PV,ρ=[.ref a,.ref c,C0 m,v3]∧Led σ B9 [(c,.list ((pre.foldl (λ l o=>cT l m o) k).map C0))] []) ⟨_,rfl,L⟩ ?_ ?_⟩))
  ·intro p2 o iG ρ S7 R2 Np hQ;intros hQ v3 hZ;obtain rfl:=hZ.1;delta hZ hZ L;intro bR
   have ho:=(P9 Np).2
   rw[cG]at bR
   have fM:=dS m p2 k
   generalize p2.foldl (λ l o=>cT l m o) k=j at L bR fM
   have LD:o<j.length:=fM▸ho
   have e1:=getD_at (l:=j) (i:=o) LD
   have e2:=getD_at (l:=j) (i:=m) (fM▸hl▸hm)
   have s1:pv S7 [.ref a,.ref c,C0 m,C0 o] (.sub (.loc 1) (.loc 3))=some (C0 (j.getD o 0)):=I8 rfl rfl (I0 (L.get 0 rfl) (V5 e1))
   refine Ca (iB (O6 (rC s1 rfl ⟨G6 m,P2 rfl (P2 rfl ⟨decide (j.getD o 0/2^m%2=1),?_,?_⟩)⟩)))
   ·rw[Ab]
    show some (decide (((j.getD o 0/2^m%2:Nat):Int)=1))=_
    congr 1;rw[eN];exact Int.natCast_inj (n:=1)
   ·unfold cT at bR
    by_cases c1:j.getD o 0/2^m%2=1
    ·rw[F7 c1]at bR
     rw[H3 c1]
     refine mV 0 L rfl (x:=C0 (j.getD o 0|||j.getD m 0)) ?_ rfl rfl (by rw[A8];exact LD) λ Y8 _ L3=>s_end (s_end (bR _ _ _ trivial trivial ⟨_,rfl,by rw[hY];exact L3⟩))
     exact jJ s1 (I8 rfl rfl (I0 (L.get 0 rfl) (V5 e2))) (C7 (λ z=>some (PV.int z)) (wF _ _))
    ·rw[G0 c1]at bR
     rw[J8 c1]
     exact s_end (s_end (bR _ _ _ trivial trivial ⟨_,rfl,L⟩))
  ·intro ρ S7 hQ;intros hQ v3 hZ;obtain rfl:=hZ.1;delta hZ hZ L
   exact s_end (hR _ _ _ trivial trivial ⟨_,_,rfl,L⟩)
 ·intro ρ B9 hQ;intros hQ v2 hZ;intros hZ v3 Q0;obtain rfl:=Q0.1;delta Q0 Q0 L
  exact X7 rfl (q c B9 L.ext (L.get 0 rfl))
end
def gF(l:List Nat)(r:Rl):List Nat:=match r.right with
 |[]=>l
 |s::_=>l.set r.left (l.getD r.left 0|||2^s)
def Gr.zU(G:Gr):List Nat:=G.rules.foldl gF (List.replicate G.names.length 0)
def Gr.jW(G:Gr):List Nat:=Tb G.zU
theorem rR:∀(rs:List Rl) (l:List Nat),(rs.foldl gF l).length=l.length
 |[],_=>rfl
 |r::rs,l=>by rw[J0,rR rs];unfold gF;split<;>simp
theorem Gr.BO(G:Gr):G.jW.length=G.names.length:=by
 unfold Gr.jW Tb
 rw[show ∀l:List Nat,((List.range l.length).foldl (λ l m=>(List.range l.length).foldl (λ l o=>cT l m o) l) l).length=l.length from λ l=>lP _ l]
 exact(rR _ _).trans K8
def wJ(σ:PH)(c g:Addr)(G:Gr):Prop:=∃a,aS σ c 296 [("grammar",.ref g),("firsts",.ref a)]∧σ a=some (.list (G.jW.map C0))
section
variable{σ B9:PH}{c g:Addr}{G:Gr}(h:wJ σ c g G)
include h
theorem wJ.gr:fld σ (.ref c) "grammar"=some (.ref g):=let⟨_,o,_⟩:=h;o.fld _
theorem wJ.fi:∃a,fld σ (.ref c) "firsts"=some (.ref a)∧σ a=some (.list (G.jW.map C0)):=let⟨a,o,x⟩:=h;⟨a,o.fld _,x⟩
theorem wJ.H2:∀f m,(f,m)∈[("wanted",279),("added",286),("close",293)]->dY tb σ (.ref c) f=some (.ref m):=λ f m hf=>by
 intros h _ hZ;delta hZ o
 simp only[F8,Prod.mk.injEq,eP,or_false]at hf
 rcases hf with⟨rfl,rfl⟩|⟨rfl,rfl⟩|⟨rfl,rfl⟩<;>exact o.H2 _ rfl rfl
theorem wJ.ext(E:Ext σ B9):wJ B9 c g G:=let⟨a,o,x⟩:=h;⟨a,o.ext E,E _ _ x⟩
end
section
variable{W:Wd}{n:Nat}{σ:PH}{ρ:List PV}{e e' KC:PE}{r:V0}{K:Fl->List PV->PH->Prop}
theorem Km{C8:PH}{f:String}{C a dx:Addr}{fs:List (String×PV)}{L R:List (Addr×PO)}{x:PV}(h:Led C8 σ ((a,.inst C dx)::(dx,.attrs C fs)::L) R)(hf:tb.fld C f=true)(hz:fs.length<=100)
  (k:∀B9,(∀b o,σ b=some o->(∀D gs,o≠.attrs D gs)->B9 b=some o)->Led C8 B9 ((a,.inst C dx)::(dx,.attrs C (lS f x fs))::L) R->S8 W tb n r ρ B9 K):∃C dx fs,σ a=some (.inst C dx)∧σ dx=some (.attrs C fs)∧tb.fld C f=true∧fs.length<=100∧S8 W tb n r ρ (σ.set dx (.attrs C (lS f x fs))) K:=
 ⟨C,dx,fs,h.get 0 rfl,h.get 1 rfl,hf,hz,k _ (λ b o e no=>by
  rw[PH.U0]
  ·exact e
  ·clear k;rintro rfl;rw[h.get 1 rfl]at e;cases e;exact no _ _ rfl) (h.set 1 rfl _)⟩
theorem zR(h:(wp W tb n e).v ρ σ λ x B4=>(wp W tb n e').v ρ B4 λ ov H6=>(wp W tb n KC).v ρ H6 λ iv R9=>kM R9 iv x (λ mU=>S8 W tb n r ρ mU K) ov):S8 W tb n (.cons (.aM e' KC e) r) ρ σ K:=h
theorem VG{C8:PH}{L R:List (Addr×PO)}(i:Nat){a:Addr}{xs:List PV}{j:Nat}{x:PV}{C:PH->Prop}(hL:Led C8 σ L R)(ha:L[i]? =some (a,.list xs))(hj:j<xs.length)(k:∀B9,SF σ B9->Led C8 B9 (L.set i (a,.list (xs.set j x))) R->C B9):kM σ (C0 j) x C (.ref a):=by
 show cF _ _ (σ a)
 rw[hL.get i ha]
 exact⟨j,rfl,hj,k _ (.list (hL.get i ha) _) (hL.set i ha _)⟩
end
theorem sX(s:Nat)(h:s<=64){σ:PH}{Q:PV->PH->Prop}(q:Q (C0 (2^s)) σ):mM .LShift σ Q (.int 1) (C0 s):=by
 refine⟨G6 s,by lia,⟨by decide,by decide⟩,?_⟩
 have:(1:Int)*2^(s:Int).toNat=((2^s:Nat):Int):=by rw[aZ];simp
 rw[this];exact q
theorem uH{a b:Nat}{σ:PH}{Q:PV->PH->Prop}(q:Q (C0 (a|||b)) σ):mM .BitOr σ Q (C0 a) (C0 b):=by
 show Q (.int (Builtin.bitOr a b)) σ
 rw[wF];exact q
section
variable{W:Wd}(P:dQ W){n:Nat}{σ:PH}{g:Addr}{G:Gr}(hG:pZ σ g G)(w:G.Wf){Q:PV->PH->Prop}
include P hG w
theorem ZX(q:∀c B9,Ext σ B9->wJ B9 c g G->Q (.ref c) B9):J9 W (n+3) (.ref 296) [.ref g] σ Q:=by
 have wn:=w.names
 refine ee2.e (zT hG w) λ ru ra hZ=>?_;delta hZ r1 r2 r3 r4 r5
 refine vQ P 3 18 1 (r:=qQ) rfl rfl (O5:=[.ref g,.M7,.M7]) (λ _=>rfl) (λ _=>rfl) λ x dx aK L1=>?_
 refine K1 (O6 (K7 L1 rfl λ c1 W9 L2=>J1 rfl ((hG.ext L2.ext).H2 "symbol_count" 122 (by simp)) rfl (pE (n:=n) P (hG.ext L2.ext) (CE L2 (L2.get 2 rfl) (A9 wn (by decide)) λ c2 Y8 L3=>?_))))
 have Iq:Led σ Y8 [(x,.inst 296 dx),(dx,.attrs 296 [("grammar",.ref g)]),(c2,.list ((List.replicate G.names.length 0).map C0))] []:=L3.sub (by rw[nV];exact .cons_cons _ (.cons_cons _ (.cons _ (.refl _))))
 show S8 W tb (n+1) _ [.ref x,.ref g,.ref c2,.M7] Y8 _
 clear L3 L2 L1
 refine oC (v:=.ref ru) (λ pre ρ B9=>∃v3:PV,ρ=[.ref x,.ref g,.ref c2,v3]∧Led σ B9 [(x,.inst 296 dx),(dx,.attrs 296 [("grammar",.ref g)]),(c2,.list (((G.rules.take pre.length).foldl gF (List.replicate G.names.length 0)).map C0))] []) (D8 rfl (U8 Iq.ext r1)) (V6 (by rw[Iq.ext _ _ r2,fG,r3]) (by have:=w.rules;simp;lia)) ⟨_,rfl,Iq⟩ ?_ ?_
 ·intro pre i post ρ B9 R vT hQ;intros hQ v3 hZ;obtain rfl:=hZ.1;delta hZ hZ L;intro hR
  have hZ:=P9 vT;delta hZ hp hi
  have TH:pre.length=i:=by rw[hp];simp
  refine A0 (r5 i hi) λ r hZ=>?_;delta hZ hg hm ir
  have st:∀{cH:PH} {L5 R5:List (Addr×PO)},Led σ cH L5 R5->M9 Y8 (.ref ru) cH:=λ h=>(h.ext _ _ r2).trans (Iq.ext _ _ r2).symm
  have hl:=rR (G.rules.take i) (List.replicate G.names.length 0)
  rw[K8]at hl
  rw[B0,X9,TH,List.take_add_one,hg]at hR
  rw[TH]at L
  simp only[Option.toList_some,cG]at hR
  generalize (G.rules.take i).foldl gF (List.replicate G.names.length 0)=l at L hR hl
  have rr:=(ir.ext L.ext).right
  have ht:=N3 (σ:=B9) (ρ:=[.ref x,.ref g,.ref c2,.ref (ra.getD i 0)]) (op:=.Gt) (e:=.call 1 (.builtin "len") (.cons (.attr (.loc 3) "right") .nil)) (e':=.int 0) (V8 (D8 rfl rr) (pU (A8 ..))) rfl rfl
  unfold gF at hR
  cases Tv:r.right with
  |nil=>
   rw[Tv]at ht hR
   exact oB ht (s_end (hR _ _ _ trivial (st L) ⟨_,rfl,L⟩))
  |cons s q'=>
   rw[Tv]at ht hR rr
   have hs:=w.sym r hm s (by rw[Tv];exact .head _)
   have BJ:=w.left r hm
   have e1:=getD_at (l:=l) (i:=r.left) (hl▸BJ)
   have rl:=(ir.ext L.ext).left
   refine qL (ht.trans (C7 some (H3 (Int.natCast_pos.mpr (eO _))))) (zR (O6 (P2 (I8 rfl (D8 rfl rl) (I0 (L.get 2 rfl) (V5 e1))) (rC rfl (I8 (D8 rfl rr) rfl (fP (k:=0) rfl)) (sX s (M8 (D1 hs (A9 wn (by decide)))) (uH (P2 rfl (P2 (D8 rfl rl) (VG 2 L rfl (by rw[A8,hl];exact BJ) λ bK _ L4=>s_end (s_end (hR _ _ _ trivial (st L4) ⟨_,rfl,by rw[hY];exact L4⟩)))))))))))
 ·intro ρ B9 hQ;intros hQ v3 hZ;obtain rfl:=hZ.1;delta hZ hZ L
  rw[D9,bZ]at L
  refine Q9 rfl (H7 rfl (HL P (l:=G.zU) (L.get 2 rfl) (by rw[show G.zU.length=G.names.length from(rR _ _).trans K8];exact A9 wn (by decide)) λ c3 cH E5 h5=>Km (L.grow E5) rfl (C3 rfl) λ eK D6 L6=>s_end ⟨rfl,q x eK L6.ext ?_⟩))
  exact⟨c3,L6.obj 0 1 rfl rfl,D6 _ _ h5 λ _ _ e=>by cases e⟩
end
theorem Led.adopt{C8 σ B9:PH}{L R:List (Addr×PO)}(h:Led C8 σ L R){c:Addr}{o:PO}(E:Ext σ B9)(hc:σ c=none)(h2:B9 c=some o):Led C8 B9 (L++[(c,o)]) R:=by
 have h3:Led C8 (σ.set c o) (L++[(c,o)]) R:=h.alloc hc o
 refine⟨h3.nd,h3.new,λ p hp=>?_,h.ext.trans E⟩
 by_cases e:p.1=c
 ·have:=h3.at_ p hp
  rw[e,PH.J7]at this
  rw[e,<-this];exact h2
 ·have:=h3.at_ p hp
  rw[PH.U0 _ _ e]at this
  exact E _ _ this
def Gr.S6(G:Gr)(m:Nat):Nat:=G.aR.getD m 0
def Gr.PR(G:Gr)(m:Nat):Rl:=G.rules.getD (G.S6 m) ⟨0,[]⟩
def Gr.rT(G:Gr)(m:Nat):Nat:=m - G.off (G.S6 m)
def Gr.cL(G:Gr)(m:Nat):Option Nat:=(G.PR m).right[G.rT m]?
theorem Gr.It.I{G:Gr}{m i d:Nat}{r:Rl}(h:G.It m i r d):G.S6 m=i∧G.PR m=r∧G.rT m=d:=by
 have e1:G.S6 m=i:=by unfold Gr.S6;rw[C2,h.own];rfl
 refine⟨e1,?_,?_⟩
 ·unfold Gr.PR;rw[e1,C2,h.rule];rfl
 ·unfold Gr.rT;rw[e1,h.at_,W0]
theorem Gr.it{G:Gr}{m:Nat}(h:m<G.aR.length):G.It m (G.S6 m) (G.PR m) (G.rT m):=by
 refine ee3.e (G.Qm h) λ i r d x=>?_
 have hZ:=x.I;delta hZ a b c
 rw[a,b,c];exact x
def Gr.wM(G:Gr)(mask m:Nat):Nat:=match G.cL m with
 |some s=>mask|||2^s|||G.jW.getD s 0
 |none=>mask
def Gr.wanted(G:Gr)(k:List Nat):Nat:=k.foldl G.wM 0
def Gr.HV(G:Gr)(k:List Nat):List Nat:=(((X6 (G.wanted k) G.names.length).flatMap G.of).map G.off).filter λ i=>!decide (i∈k)
def Gr.close(G:Gr)(k:List Nat):List Nat:=dT k++dT (G.HV k)
theorem II{N m:Nat}:∀{os l:List Nat},(∀x∈l,x<2^N)->∀x∈os.foldl (λ l o=>cT l m o) l,x<2^N
 |[],l,h=>h
 |o::os,l,h=>by
  rw[J0]
  refine II λ x hx=>?_
  unfold cT at hx
  have gd:∀i,l.getD i 0<2^N:=λ i=>by
   rw[C2]
   cases e:l[i]? with
   |none=>exact Z7 N
   |some y=>exact h y (B5 e)
  split at hx
  ·rcases aT hx with hx|rfl
   ·exact h x hx
   ·exact Z4 (gd _) (gd _)
  ·exact h x hx
theorem DP{N:Nat}:∀{ms l:List Nat},(∀x∈l,x<2^N)->∀x∈ms.foldl qI l,x<2^N
 |[],l,h=>h
 |m::ms,l,h=>by rw[J0];exact DP (II h)
set_option tactic.hygienic true in
theorem MC{G:Gr}(w:G.Wf):∀x∈G.zU,x<2^G.names.length:=by
 have gen:∀(rs:List Rl) (l:List Nat),(∀r∈rs,r∈G.rules)->(∀x∈l,x<2^G.names.length)->∀x∈rs.foldl gF l,x<2^G.names.length:=by
  intro rs
  induction rs with
  |nil=>intro l _ h;exact h
  |cons r rs ih=>
   intro l hr h
   rw[J0]
   refine ih _ (λ y hy=>hr y (.tail _ hy)) λ x hx=>?_
   unfold gF at hx
   split at hx
   ·exact h x hx
   ·rename_i s q e
    rcases aT hx with hx|rfl
    ·exact h x hx
    ·refine Z4 ?_ (kH (by decide) (w.sym r (hr r (.head _)) s (by rw[e];exact .head _)))
     rw[C2]
     cases e:l[r.left]? with
     |none=>exact Z7 _
     |some y=>exact h y (B5 e)
 exact gen _ _ (λ _ h=>h) λ x hx=>by rw[(List.mem_replicate.mp hx).2];exact Z7 _
theorem HH{G:Gr}(w:G.Wf)(s:Nat):G.jW.getD s 0<2^G.names.length:=by
 rw[C2]
 cases e:G.jW[s]? with
 |none=>exact Z7 _
 |some y=>exact DP (MC w) y (B5 e)
theorem HU{G:Gr}(w:G.Wf){m s:Nat}(hm:m<G.aR.length)(h:G.cL m=some s):s<G.names.length:=w.sym _ (B5 (Gr.it hm).rule) s (B5 h)
set_option tactic.hygienic true in
theorem sO{G:Gr}(w:G.Wf):∀{k:List Nat} {z:Nat},(∀m∈k,m<G.aR.length)->z<2^G.names.length->k.foldl G.wM z<2^G.names.length
 |[],z,_,h=>h
 |m::k,z,hk,h=>by
  rw[J0]
  refine sO w (λ y hy=>hk y (.tail _ hy)) ?_
  unfold Gr.wM
  split
  ·rename_i s e
   exact Z4 (Z4 h (kH (by decide) (HU w (hk m (.head _)) e))) (HH w s)
  ·exact h
section
variable{W:Wd}(P:dQ W){n:Nat}{σ:PH}{g c:Addr}{G:Gr}(hG:pZ σ g G)(w:G.Wf)(hC:wJ σ c g G){Q:PV->PH->Prop}
include P hG w hC
theorem ZM{k:List Nat}(hk:∀m∈k,m<G.aR.length)(hz:k.length<=64)(q:Q (C0 (G.wanted k)) σ):J9 W (n+2) (.ref 279) [.ref c,.tup (k.map C0)] σ Q:=by
 refine A0 (hC.fi) λ fa hZ=>?_;delta hZ f1 f2
 refine P.fn nG 19 rfl (ρ:=[.ref c,.tup (k.map C0),.M7,.M7,.M7]) rfl (P3 rfl ?_)
 refine oC (l:=k) (f:=C0) (v:=.tup (k.map C0)) (λ pre ρ B9=>B9=σ∧∃v3 v4:PV,ρ=[.ref c,.tup (k.map C0),C0 (pre.foldl G.wM 0),v3,v4]) rfl (rN (mz hz rfl)) ⟨rfl,_,_,rfl⟩ ?_ ?_
 ·intro pre m post ρ B9 R hl hQ;clear q;obtain rfl:=hQ.1;refine A0 hQ.2 λ v3 Q0=>?_;intros Q0 v4 P4;obtain rfl:=P4;try clear hQ;intro hR
  have hm:=hk m (by rw[hl];simp)
  have it:=Gr.it hm
  rw[cG]at hR
  generalize pre.foldl G.wM 0=z at hR
  refine K1 (J1 (D8 rfl hC.gr) (hG.H2 "after" 178 (by simp)) rfl (zC (n:=n) P hG it ?_))
  have e:OG (G.PR m) (G.rT m)=match G.cL m with|some s=>(s:Int)|none=> -1:=rfl
  rw[e]
  unfold Gr.wM at hR
  cases ha:G.cL m with
  |none=>
   rw[ha]at hR
   exact oB rfl (s_end (hR _ _ _ trivial trivial ⟨rfl,_,_,rfl⟩))
  |some s=>
   rw[ha]at hR
   have hs:=HU w hm ha
   have e1:=getD_at (l:=G.jW) (i:=s) (G.BO▸hs)
   refine qL ((N3 rfl rfl rfl).trans (C7 some (H3 (G6 s)))) (K1 (O6 (O6 (P2 rfl (rC rfl rfl (sX s (M8 (D1 hs (A9 w.names (by decide)))) (uH (P2 (I8 (D8 rfl f1) rfl (I0 f2 (V5 e1))) (uH (s_end (s_end (hR _ _ _ trivial trivial ⟨rfl,_,_,rfl⟩))))))))))))
 ·intro ρ B9 hQ;clear P f1 f2 fa hC hG hk hz w;obtain rfl:=hQ.1;refine A0 hQ.2 λ v3 Q0=>?_;intros Q0 v4 P4;clear hQ;obtain rfl:=P4;try clear hQ
  exact X7 rfl q
end
theorem wE{m N x:Nat}(h:x∈X6 m N):x<N∧m/2^x%2=1:=by
 have:=J5.mp h
 exact⟨N1.mp this.1,eq_of_beq this.2⟩
theorem vM{G:Gr}{s i:Nat}(h:i∈G.of s):i<G.rules.length∧∃r,G.rules[i]? =some r∧r.left=s:=by
 have:=J5.mp h
 refine⟨N1.mp this.1,?_⟩
 have e:=eq_of_beq this.2
 cases h2:G.rules[i]? with
 |none=>rw[h2]at e;cases e
 |some r=>rw[h2]at e;exact⟨r,rfl,H1 e⟩
theorem BN{α β:Type}{f:α->List β}{b:Nat}:∀{l:List α},(∀x∈l,(f x).length<=b)->(l.flatMap f).length<=b*l.length
 |[],_=>K3 _
 |x::l,h=>by
  rw[Z6,B0,H5,Nat.mul_succ,aE]
  exact S0 (BN λ y hy=>h y (.tail _ hy)) (h x (.head _))
theorem AV{G:Gr}(w:G.Wf)(s:Nat):(G.of s).length<=6:=A9 (H4 ..) (by rw[D9];exact w.rules)
theorem KN{G:Gr}(w:G.Wf)(k:List Nat):(G.HV k).length<64:=by
 have h1:(X6 (G.wanted k) G.names.length).length<=10:=A9 (H4 ..) (by rw[D9];exact w.names)
 have h2:=BN (f:=G.of) (l:=X6 (G.wanted k) G.names.length) λ x _=>AV w x
 have h3:(G.HV k).length<=((X6 (G.wanted k) G.names.length).flatMap G.of).length:=A9 (H4 ..) (by rw[A8];exact D7 _)
 lia
theorem JN{x:Nat}{l:List Nat}:DB (C0 x) (l.map C0)=some (decide (x∈l)):=by
 unfold DB
 rw[F7 ⟨rfl,by rw[cR];exact G3.mpr λ _ _=>rfl⟩,nO]
 congr 1
 rw[fY,jO,P8]
 constructor
 ·intro hQ;intros hQ y hZ;delta hZ hy e;rw[<-qZ (D0 (show decide ((y:Int)=x)=true from e))];exact hy
 ·intro h;exact⟨x,h,by show decide ((x:Int)=x)=true;simp⟩
theorem oT{σ:PH}{ρ:List PV}{e e':PE}{x:Nat}{l:List Nat}{v:PV}(h:pv σ ρ e=some (C0 x))(h':pv σ ρ e'=some v)(hv:QO σ (C0 x) v=some (decide (x∈l))):pt σ ρ (.cmp .NotIn e e')=some (!decide (x∈l)):=
 N3 h h' (by show Option.map _ (QO σ (C0 x) v)=_;rw[hv];rfl)
theorem in_list{σ:PH}{a:Addr}{l:List Nat}{x:Nat}(h:σ a=some (.list (l.map C0))):QO σ (C0 x) (.ref a)=some (decide (x∈l)):=by rw[BH h];exact JN
section
variable{W:Wd}(P:dQ W){n:Nat}{σ:PH}{g c:Addr}{G:Gr}(hG:pZ σ g G)(w:G.Wf)(hC:wJ σ c g G){Q:PV->PH->Prop}
include P hG w hC
theorem Fw{k:List Nat}(hk:∀m∈k,m<G.aR.length)(hz:k.length<=64)(q:∀a B9,Ext σ B9->σ a=none->B9 a=some (.list ((dT (G.HV k)).map C0))->Q (.ref a) B9):J9 W (n+3) (.ref 286) [.ref c,.tup (k.map C0)] σ Q:=by
 have wn:=w.names
 have wr:=w.rules
 refine P.fn oP 20 rfl (ρ:=[.ref c,.tup (k.map C0),.M7,.M7,.M7,.M7]) rfl (K1 (K7 (Led.start σ) rfl λ c2 aK L1=>?_))
 have TN:=hG.ext L1.ext
 refine uX (T5 (F9 (J1 rfl ((hC.ext L1.ext).H2 "wanted" 279 (by simp)) rfl (ZM (n:=n) P TN w (hC.ext L1.ext) hk hz (M0 (CA (n:=n+1) P (N:=G.names.length) (sO w hk (Z7 _)) (A9 wn (by decide)) λ c3 W9 E2 CR h3=>?_))))))
 have L2:=L1.adopt E2 CR h3
 refine⟨_,qS h3 (k:=10) (A9 (H4 ..) (by rw[D9];exact wn)) rfl,eC (λ pre ρ B9=>∃v3 v4 v5:PV,ρ=[.ref c,.tup (k.map C0),.ref c2,v3,v4,v5]∧Led σ B9 [(c2,.list ((((pre.flatMap G.of).map G.off).filter λ i=>!decide (i∈k)).map C0)),(c3,.list ((X6 (G.wanted k) G.names.length).map C0))] []) ⟨_,_,_,rfl,L2⟩ ?_ ?_⟩
 ·intro pre s post ρ B9 R hl hQ;intros hQ v3 hZ;intros hZ v4 Q0;intros Q0 v5 P4;obtain rfl:=P4.1;delta P4 P4 L;intro hR
  have hs:=(wE (show s∈X6 _ _ by rw[hl];simp)).1
  have pz:(pre.flatMap G.of).length<=60:=by
   have h1:(X6 (G.wanted k) G.names.length).length<=10:=A9 (H4 ..) (by rw[D9];exact wn)
   rw[hl,B0]at h1
   have:=BN (f:=G.of) (l:=pre) λ x _=>AV w x
   lia
  refine uX (J1 (D8 rfl (U8 L.ext hC.gr)) ((hG.ext L.ext).H2 "rules_of" 150 (by simp)) rfl (BY (n:=n+1) P (hG.ext L.ext) hs (A9 wr (by decide)) λ c4 Y8 E3 Ue h4=>?_))
  have L3:=L.adopt E3 Ue h4
  refine⟨_,qS h4 (AV w s) rfl,eC (λ p2 ρ S7=>∃v4 v5:PV,ρ=[.ref c,.tup (k.map C0),.ref c2,C0 s,v4,v5]∧Led σ S7 [(c2,.list (((((pre.flatMap G.of)++p2).map G.off).filter λ i=>!decide (i∈k)).map C0)),(c3,.list ((X6 (G.wanted k) G.names.length).map C0)),(c4,.list ((G.of s).map C0))] []) ⟨_,_,rfl,by rw[C9];exact L3⟩ ?_ ?_⟩
  ·intro p2 i iG ρ S7 R2 fM hQ;intros hQ v4 hZ;intros hZ v5 Q0;obtain rfl:=Q0.1;delta Q0 Q0 M;intro bR
   have hi:=(vM (show i∈G.of s by rw[fM];simp)).1
   have Tj:p2.length<=6:=by have:=AV w s;rw[fM,B0]at this;lia
   rw[<-C6,C1,G7]at bR
   refine K1 (J1 (D8 rfl (U8 M.ext hC.gr)) ((hG.ext M.ext).H2 "item" 157 (by simp)) rfl (NW (n:=n+1) P (hG.ext M.ext) (d:=0) hi ?_))
   have ht:=oT (σ:=S7) (ρ:=[.ref c,.tup (k.map C0),.ref c2,C0 s,C0 i,C0 (G.off i+0)]) (e:=.loc 5) (e':=.loc 1) (x:=G.off i) (l:=k) rfl rfl JN
   have V4:∀{cH:PH} {X:PO},Led σ cH [(c2,X),(c3,.list ((X6 (G.wanted k) G.names.length).map C0)),(c4,.list ((G.of s).map C0))] []->M9 Y8 (.ref c4) cH:=λ h=>(h.get 2 rfl).trans h4.symm
   by_cases hx:G.off i∈k
   ·rw[H3 hx]at ht
    refine oB ht (s_end (bR _ _ _ trivial (V4 M) ⟨_,_,rfl,?_⟩))
    rw[show[i].map G.off=[G.off i]from rfl,W1,H3 hx]
    simpa using M
   ·rw[J8 hx]at ht
    refine qL ht (N4 (aG 0 (x:=C0 (G.off i)) M rfl rfl rfl ?_ λ cH _ M5=>s_end (s_end (bR _ _ _ trivial (V4 M5) ⟨_,_,rfl,?_⟩))))
    ·rw[A8]
     refine A9 (H4 ..) ?_
     rw[A8,B0]
     lia
    ·rw[show[i].map G.off=[G.off i]from rfl,W1,J8 hx,C1]
     exact M5
  ·intro ρ S7 hQ;intros hQ v4 hZ;intros hZ v5 Q0;obtain rfl:=Q0.1;delta Q0 Q0 M
   refine s_end (hR _ _ _ trivial ((M.get 1 rfl).trans h3.symm) ⟨_,_,_,rfl,?_⟩)
   rw[Q7,Q2]
   exact Led.drop (X:=[(c4,_)]) (L:=[(c2,_),(c3,_)]) M
 ·intro ρ B9 hQ;intros hQ v3 hZ;intros hZ v4 Q0;intros Q0 v5 P4;obtain rfl:=P4.1;delta P4 P4 L
  exact W3 (H7 rfl (dD (L.get 0 rfl) (KN w k) λ c5 EW=>q c5 _ (L.ext.trans (Ext.new EW _)) (L.ext.none EW) (PH.J7 ..)))
theorem Ft{k:List Nat}(hk:∀m∈k,m<G.aR.length)(hz:k.length<64)(q:∀a B9,Ext σ B9->σ a=none->B9 a=some (.list ((G.close k).map C0))->Q (.ref a) B9):J9 W (n+4) (.ref 293) [.ref c,.tup (k.map C0)] σ Q:=by
 refine P.fn oO 21 rfl (ρ:=[.ref c,.tup (k.map C0)]) rfl (W3 (O6 (H7 rfl (HP hz λ c1 Nu=>?_))))
 have E1:=Ext.new Nu (.list ((dT k).map C0))
 refine J1 rfl ((hC.ext E1).H2 "added" 286 (by simp)) rfl (Fw (n:=n) P (hG.ext E1) w (hC.ext E1) hk (M8 hz) λ c2 W9 E2 _ h2=>⟨rfl,_,_,E2 _ _ (PH.J7 ..),h2,?_,λ c3 CR=>?_⟩)
 ·rw[A8,A8,(N8 _).length_eq,(N8 _).length_eq]
  have:=KN w k
  lia
 ·have E3:=(E1.trans E2).trans (Ext.new CR (.list ((dT k).map C0++(dT (G.HV k)).map C0)))
  exact q c3 _ E3 ((E1.trans E2).none CR) (by rw[PH.J7,<-C1];rfl)
end
theorem AB{k:PK}{x:PV}{es:List (PK×PV)}(h:es.lookup k=none):putK k x es=es++[(k,x)]:=by
 induction es with
 |nil=>rfl
 |cons p l ih=>
  obtain⟨j,y⟩:=p
  rw[I1]at h
  cases e:k==j with
  |true=>rw[e]at h;cases h
  |false=>
   rw[e]at h
   rw[lR]
   rw[G0 (λ q=>by clear ih h;subst q;simp at e),ih h];rfl
def yV(ks:List Nat)(v:Nat->PV):List (PK×PV):=ks.map λ(s:Nat)=>(PK.int (s:Int),v s)
theorem rM{ks:List Nat}{v:Nat->PV}{s:Nat}:(yV ks v).lookup (.int s)=if s∈ks then some (v s)else none:=by
 induction ks with
 |nil=>rfl
 |cons t ks ih=>
  unfold yV at ih ⊢
  rw[I6,I1,ih]
  by_cases e:s=t
  ·subst e;simp
  ·have:((PK.int s)==PK.int t)=false:=by simp;lia
   rw[this]
   simp[e]
theorem BG(ks:List Nat)(v:Nat->PV)(i:Int):U3 (.int i) (yV ks v)=true:=by simp[U3,yV,HA]
theorem Kt{σ:PH}{a:Addr}{ks:List Nat}{v:Nat->PV}{m s:Nat}(h:σ a=some (.dict (yV ks v) m)):QO σ (C0 s) (.ref a)=some (decide (s∈ks)):=by
 rw[tZ h rfl (BG ..),rM]
 by_cases c:s∈ks<;>simp[c]
theorem GX{σ:PH}{a:Addr}{ks:List Nat}{v:Nat->PV}{m s:Nat}(h:σ a=some (.dict (yV ks v) m))(hs:s∈ks):gD σ (.ref a) (C0 s)=some (v s):=by
 rw[bB h rfl,rM,F7 hs]
theorem QJ{ks:List Nat}{v:Nat->PV}{s:Nat}{x:PV}(hs:s∉ks):putK (.int s) x (yV ks v)=yV (ks++[s]) λ t=>if t=s then x else v t:=by
 rw[AB (by rw[rM,G0 hs])]
 unfold yV
 rw[C1]
 congr 1
 ·exact P1 λ t ht=>by
   have:t≠s:=λ e=>hs (e▸ht)
   simp[this]
 ·simp
theorem Sk{d:Nat}{σ:PH}{Q:PV->PH->Prop}(q:Q (C0 (d+1)) σ):mM .Add σ Q (C0 d) (.int 1):=q
section
variable{W:Wd}{n:Nat}{σ C8:PH}{L R:List (Addr×PO)}{C:PH->Prop}
theorem OV(i:Nat){a:Addr}{es:List (PK×PV)}{m:Nat}{x y:PV}{q:PK}(hL:Led C8 σ L R)(ha:L[i]? =some (a,.dict es m))(hk:keyOf y=some q)(hs:U3 q es=true)(hz:es.length<2^24)
  (k:∀m' B9,SF σ B9->Led C8 B9 (L.set i (a,.dict (putK q x es) m')) R->C B9):kM σ y x C (.ref a):=by
 show cF _ _ (σ a)
 rw[hL.get i ha]
 exact⟨q,hk,hs,hz,λ m'=>k m' _ (.dict (hL.get i ha) _) (hL.set i ha _)⟩
end
def Gr.gE(G:Gr)(ks:List Nat)(m:Nat):List Nat:=match G.cL m with
 |some s=>if s∈ks then ks else ks++[s]
 |none=>ks
def Gr.ks(G:Gr)(items:List Nat):List Nat:=items.foldl G.gE []
def Gr.eB(G:Gr)(items:List Nat)(s:Nat):List Nat:=(items.filter λ m=>G.cL m==some s).map (·+1)
def Gr.kb(G:Gr)(items:List Nat):List (Nat×List Nat):=(dT (G.ks items)).map λ s=>(s,dT (G.eB items s))
def Gr.eG(G:Gr)(items:List Nat):List Nat:=(items.filter λ m=>(G.cL m).isNone&&decide (G.S6 m≠0)).map G.S6
set_option tactic.hygienic true in
theorem lF{G:Gr}(w:G.Wf):∀{items ks:List Nat},(∀m∈items,m<G.aR.length)->(ks.Nodup∧∀s∈ks,s<G.names.length)->(items.foldl G.gE ks).Nodup∧∀s∈items.foldl G.gE ks,s<G.names.length
 |[],ks,_,h=>h
 |m::items,ks,hm,h=>by
  rw[J0]
  refine lF w (λ y hy=>hm y (.tail _ hy)) ?_
  unfold Gr.gE
  split
  ·rename_i s e
   split
   ·exact h
   ·rename_i c
    have hs:=HU w (hm m (.head _)) e
    refine⟨O8.mpr ⟨h.1,by simp,λ a ha b hb=>?_⟩,λ t ht=>?_⟩
    ·simp at hb;clear e hs;subst hb;rintro rfl;exact c ha
    ·clear e;rcases G8.mp ht with ht|ht
     ·exact h.2 t ht
     ·simp at ht;lia
  ·exact h
theorem Y2{l:List Nat}{N:Nat}(h:l.Nodup)(hb:∀x∈l,x<N):l.length<=N:=by
 have:=h.length_le_of_subset (l₂:=List.range N) λ x hx=>N1.mpr (hb x hx)
 rwa [D9]at this
theorem NE{G:Gr}(w:G.Wf){items:List Nat}(hm:∀m∈items,m<G.aR.length):(G.ks items).length<=10:=by
 have:=lF w hm ⟨.nil,λ _ h=>(nomatch h)⟩
 exact A9 (Y2 this.1 this.2) w.names
theorem ND{G:Gr}{m s:Nat}(h:G.cL m=some s):∀{items ks:List Nat},(m∈items∨s∈ks)->s∈items.foldl G.gE ks
 |[],ks,e=>e.elim (λ h=>(nomatch h)) id
 |x::items,ks,e=>by
  rw[J0]
  refine ND h ?_
  have keep:∀t,t∈ks->t∈G.gE ks x:=λ t ht=>by
   unfold Gr.gE
   split
   ·split
    ·exact ht
    ·exact G9 _ ht
   ·exact ht
  rcases e with e|e
  ·clear keep;cases e with
   |head=>
    refine .inr ?_
    unfold Gr.gE
    rw[h]
    dsimp only
    split
    ·assumption
    ·exact G4 _ (.head _)
   |tail _ e=>exact .inl e
  ·exact .inr (keep _ e)
theorem XK{G:Gr}{items:List Nat}{s:Nat}(h:s∉G.ks items):G.eB items s=[]:=by
 unfold Gr.eB
 rw[mR,R3]
 intro m hm e
 exact h (ND (eq_of_beq e) (.inl hm))
theorem ES{ks:List Nat}{v u:Nat->PV}(h:∀s∈ks,v s=u s):yV ks v=yV ks u:=P1 λ s hs=>by rw[h s hs]
theorem Da{l:List Nat}{s t:Nat}(ht:t∈l):(l++[s]).idxOf t=l.idxOf t:=by rw[List.idxOf_append,F7 ht]
theorem Cz{l:List Nat}{s:Nat}(hs:s∉l):(l++[s]).idxOf s=l.length:=by rw[List.idxOf_append,G0 hs];simp
section
variable{W:Wd}(P:dQ W){n:Nat}{σ:PH}{g:Addr}{G:Gr}(hG:pZ σ g G)(w:G.Wf){Q:PV->PH->Prop}
include P hG w
omit w in
theorem OA{m i d:Nat}{r:Rl}(h:G.It m i r d)(q:Q (C0 (m+1)) σ):J9 W (n+2) (.ref 307) [.ref g,C0 m] σ Q:=by
 have hi:=(D3.mp h.rule).1
 refine P.fn zZ 22 rfl (ρ:=[.ref g,C0 m]) rfl (W3 (T0 rfl (hG.H2 "item" 157 (by simp)) (F9 (J1 rfl (hG.H2 "rule_of" 164 (by simp)) rfl (lK (n:=n) P hG h (F9 (O6 (J1 rfl (hG.H2 "dot_of" 171 (by simp)) rfl (BZ (n:=n) P hG h (P2 rfl (Sk (M0 (NW (n:=n) P hG (d:=d+1) hi ?_)))))))))))))
 rw[show G.off i+(d+1)=m+1 from by rw[h.at_];rfl]
 exact q
omit w in
theorem NZ{a:Addr}{items:List Nat}(ha:σ a=some (.list (items.map C0)))(hm:∀m∈items,m<G.aR.length)(hz:items.length<64)(q:∀c B9,Ext σ B9->σ c=none->B9 c=some (.list ((dT (G.eG items)).map C0))->Q (.ref c) B9):J9 W (n+2) (.ref 321) [.ref g,.ref a] σ Q:=by
 refine P.fn kR 24 rfl (ρ:=[.ref g,.ref a,.M7,.M7]) rfl (K1 (K7 (Led.start σ) rfl λ c2 aK L1=>?_))
 refine oC (l:=items) (f:=C0) (v:=.ref a) (λ pre ρ B9=>∃v3:PV,ρ=[.ref g,.ref a,.ref c2,v3]∧Led σ B9 [(c2,.list ((G.eG pre).map C0))] []) rfl (qS (L1.ext _ _ ha) (M8 hz) rfl) ⟨_,rfl,L1⟩ ?_ ?_
 ·intro pre m post ρ B9 R hl hQ;intros hQ v3 hZ;obtain rfl:=hZ.1;delta hZ hZ L;intro hR
  have it:=Gr.it (hm m (by rw[hl];simp))
  have Dg:=hG.ext L.ext
  have st:∀{cH:PH} {L5 R5:List (Addr×PO)},Led σ cH L5 R5->M9 aK (.ref a) cH:=λ h=>(h.ext _ _ ha).trans (L1.ext _ _ ha).symm
  have pz:(G.eG pre).length<=64:=by
   unfold Gr.eG
   rw[A8]
   have:=C7 List.length hl
   rw[B0]at this
   exact A9 (H4 ..) (by lia)
  have e:G.eG (pre++[m])=G.eG pre++if((G.cL m).isNone&&decide (G.S6 m≠0))=true then[G.S6 m]else[]:=by
   unfold Gr.eG
   rw[G7,C1,W1,List.filter_nil]
   split<;>rfl
  rw[e]at hR
  have fin:∀S7,∀b:Bool,S7=B9->((G.cL m).isNone&&decide (G.S6 m≠0))=b->S8 W tb (n+1) (cond b (.cons (.expr (.H2 (.loc 2) "append" (.cons (.H2 (.loc 0) "rule_of" (.cons (.loc 3) .nil)) .nil))) .nil) .nil) [.ref g,.ref a,.ref c2,C0 m] S7 λ fl O5 B9=>match fl with
    |.next=>S8 W tb (n+1) .nil O5 B9 R
    |.brk=>R .brk O5 B9
    |.cont=>R .cont O5 B9
    |.ret v=>R (.ret v) O5 B9:=λ S7 b hs hb=>by
   subst hs
   rw[hb]at hR
   clear hb;cases b
   ·exact s_end (s_end (hR _ _ _ trivial (st L) ⟨_,rfl,by rw[G0 C5,C9];exact L⟩))
   ·refine N4 (T0 rfl (N9 (L.get 0 rfl) _) (F9 (J1 rfl (Dg.H2 "rule_of" 164 (by simp)) rfl (lK (n:=n) P Dg it (M0 (aW 0 L rfl (mz pz rfl) λ Y8 _ L3=>s_end (s_end (hR _ _ _ trivial (st L3) ⟨_,rfl,?_⟩))))))))
    rw[F7 rfl,C1];exact L3
  have ea:OG (G.PR m) (G.rT m)=match G.cL m with|some s=>(s:Int)|none=> -1:=rfl
  refine Ca (IK (iB (J1 rfl (Dg.H2 "after" 178 (by simp)) rfl (zC (n:=n) P Dg it (P2 rfl ⟨(G.cL m).isNone,?_,?_⟩)))))
  ·rw[ea]
   cases G.cL m with
   |none=>rfl
   |some s=>exact C7 some (J8 (Int.not_lt.mpr (G6 s)))
  ·cases h1:(G.cL m).isNone with
   |false=>exact fin B9 false rfl (by rw[h1];rfl)
   |true=>
    refine iB (J1 rfl (Dg.H2 "rule_of" 164 (by simp)) rfl (lK (n:=n) P Dg it (P2 rfl ⟨decide (G.S6 m≠0),?_,fin B9 _ rfl (by rw[h1];rfl)⟩)))
    show some (!decide ((G.S6 m:Int)=0))=_
    congr 1
    rw[<-decide_not,eN];lia
 ·intro ρ B9 hQ;intros hQ v3 hZ;obtain rfl:=hZ.1;delta hZ hZ L
  exact W3 (H7 rfl (dD (L.get 0 rfl) (by unfold Gr.eG;rw[A8];exact H8 (H4 ..) hz) λ c5 EW=>q c5 _ (L.ext.trans (Ext.new EW _)) (L.ext.none EW) (PH.J7 ..)))
theorem UF{a:Addr}{items:List Nat}(hW:W.Ok)(ha:σ a=some (.list (items.map C0)))(hm:∀m∈items,m<G.aR.length)(hz:items.length<64)
  (q:∀c B9 m',Ext σ B9->σ c=none->B9 c=some (.dict ((G.kb items).map λ p=>(PK.int p.1,.tup (p.2.map C0))) m')->Q (.ref c) B9):J9 W (n+3) (.ref 314) [.ref g,.ref a] σ Q:=by
 refine P.fn kQ 23 rfl (ρ:=[.ref g,.ref a,.M7,.M7,.M7,.M7]) rfl (K1 (dR (Led.start σ) λ c2 aK L1=>?_))
 have idx:∀{ks:List Nat} {la:List Addr} {s:Nat},ks.length=la.length->s∈ks->ks[ks.idxOf s]? =some s∧∃b,la[ks.idxOf s]? =some b:=λ hl hs=>by
  have:=Y5.mpr hs
  exact⟨by rw[C4 this,nW this],_,C4 (hl▸this)⟩
 refine oC (l:=items) (f:=C0) (v:=.ref a) (λ pre ρ B9=>∃(v3 v4:PV) (m':Nat) (la:List Addr),ρ=[.ref g,.ref a,.ref c2,v3,v4,.M7]∧(G.ks pre).length=la.length∧
  Led σ B9 [(c2,.dict (yV (G.ks pre) λ s=>.ref (la.getD ((G.ks pre).idxOf s) 0)) m')] (lZ la λ i=>(G.eB pre ((G.ks pre).getD i 0)).map C0)) rfl (qS (L1.ext _ _ ha) (M8 hz) rfl) ⟨_,_,_,[],rfl,rfl,L1⟩ ?_ ?_
 ·intro pre m post ρ B9 R hl hQ;intros hQ v3 hZ;intros hZ v4 Q0;intros Q0 m' P4;intros P4 la fT;obtain rfl:=fT.1;delta fT fT LF L;intro hR
  have Ty:=hm m (by rw[hl];simp)
  have it:=Gr.it Ty
  have Dg:=hG.ext L.ext
  have st:∀{cH:PH} {L5 R5:List (Addr×PO)},Led σ cH L5 R5->M9 aK (.ref a) cH:=λ h=>(h.ext _ _ ha).trans (L1.ext _ _ ha).symm
  have kn:=lF w (items:=pre) (ks:=[]) (λ y hy=>hm y (by rw[hl];simp[hy])) ⟨.nil,λ _ h=>(nomatch h)⟩
  have kl:=NE w (items:=pre) λ y hy=>hm y (by rw[hl];simp[hy])
  have e1:G.ks (pre++[m])=G.gE (G.ks pre) m:=cG ..
  have e2:∀t,G.eB (pre++[m]) t=G.eB pre t++if G.cL m=some t then[m+1]else[]:=λ t=>by
   unfold Gr.eB
   rw[G7,C1,W1,List.filter_nil]
   by_cases c:G.cL m=some t<;>simp[c]
  refine K1 (J1 rfl (Dg.H2 "after" 178 (by simp)) rfl (zC (n:=n+1) P Dg it ?_))
  have ea:OG (G.PR m) (G.rT m)=match G.cL m with|some s=>(s:Int)|none=> -1:=rfl
  rw[ea]
  rw[e1]at hR
  unfold Gr.gE at hR
  cases hs:G.cL m with
  |none=>
   rw[hs]at hR
   refine oB rfl (s_end (hR _ _ _ trivial (st L) ⟨_,_,m',la,rfl,LF,?_⟩))
   refine(gU λ i _=>?_)▸L
   rw[e2,hs,G0 (by simp),C9]
  |some s=>
   rw[hs]at hR
   have tail:∀(Y8:PH) (ks:List Nat) (la:List Addr) (m':Nat),ks=(if s∈G.ks pre then G.ks pre else G.ks pre++[s])->ks.Nodup->s∈ks->ks.length=la.length->Led σ Y8 [(c2,.dict (yV ks λ s=>.ref (la.getD (ks.idxOf s) 0)) m')] (lZ la λ i=>(G.eB pre (ks.getD i 0)).map C0)->
     S8 W tb (n+2) (.cons (.expr (.H2 (.sub (.loc 2) (.loc 4)) "append" (.cons (.call 15 (.ref 307) (.cons (.loc 0) (.cons (.loc 3) .nil))) .nil))) .nil) [.ref g,.ref a,.ref c2,C0 m,C0 s,.M7] Y8 λ fl O5 B9=>match fl with
      |.next=>S8 W tb (n+2) .nil O5 B9 R
      |.brk=>R .brk O5 B9
      |.cont=>R .cont O5 B9
      |.ret v=>R (.ret v) O5 B9:=λ Y8 ks la m' Nq nd Zw LF L=>by
    dsimp only at hR
    rw[<-Nq]at hR
    have hZ:=idx LF Zw;generalize hZ.1=i1;refine A0 hZ.2 λ b hb=>?_;try clear hZ
    have hv:gD Y8 (.ref c2) (C0 s)=some (.ref b):=by
     rw[GX (L.get 0 rfl) Zw,C2,hb];rfl
    have fi:(G.eB pre (ks.getD (ks.idxOf s) 0)).length<=64:=by
     unfold Gr.eB
     rw[A8]
     have:=C7 List.length hl
     rw[B0]at this
     exact A9 (H4 ..) (by lia)
    refine N4 (T0 (I8 rfl rfl hv) (N9 (L.HE (aC hb)) _) (F9 (H7 rfl (OA (n:=n) P (hG.ext L.ext) it (M0 (BD (L.HE (aC hb)) (mz fi rfl) ?_))))))
    have L4:=L.Pj (aC hb) (.list ((G.eB pre (ks.getD (ks.idxOf s) 0)).map C0++[C0 (m+1)]))
    rw[yT hb]at L4
    refine s_end (s_end (hR _ _ _ trivial (st L4) ⟨_,_,m',la,rfl,LF,?_⟩))
    refine(gU λ i hi=>?_)▸L4
    rw[e2,hs]
    by_cases c:i=ks.idxOf s
    ·clear L4 hs hi;subst c
     rw[F7 rfl,F7 (by rw[C2,i1];rfl),C1];rfl
    ·rw[G0 c,G0,C9]
     intro q
     have XQ:i<ks.length:=LF▸hi
     rw[C2,C4 XQ]at q
     have q':s=ks[i]:=H1 q
     have h2:=(D3.mp i1)
     intros h2 h3 h4
     exact c ((List.getElem_inj nd).mp (q'.symm.trans h4.symm))
   refine qL ((N3 rfl rfl rfl).trans (C7 some (H3 (G6 s)))) ?_
   have ht:pt B9 [.ref g,.ref a,.ref c2,C0 m,C0 s,.M7] (.cmp .NotIn (.loc 4) (.loc 2))=some (!decide (s∈G.ks pre)):=oT rfl rfl (Kt (L.get 0 rfl))
   by_cases c:s∈G.ks pre
   ·rw[H3 c]at ht
    exact oB ht (tail B9 (G.ks pre) la m' (F7 c).symm kn.1 c LF L)
   ·rw[J8 c]at ht
    refine qL ht (zR (uP rfl λ c3 CR=>P2 rfl (P2 rfl ?_)))
    have L2:=L.wG CR (.list [])
    have eR:lZ la (λ i=>(G.eB pre ((G.ks pre).getD i 0)).map C0)++[(c3,.list [])]=lZ (la++[c3]) λ i=>(G.eB pre ((G.ks pre++[s]).getD i 0)).map C0:=by
     rw[<-BB]
     congr 1
     ·refine gU λ i hi=>?_
      rw[C2,C2,I4 (LF▸hi)]
     ·rw[C2,<-LF,N2 (D7 _),hJ]
      show _=[(c3,PO.list ((G.eB pre s).map C0))]
      rw[XK c];rfl
    rw[eR]at L2
    refine OV 0 L2 rfl rfl (BG ..) (by unfold yV;rw[A8];exact H8 kl (by decide)) λ u9 bK _ L4=>s_end (tail bK (G.ks pre++[s]) (la++[c3]) u9 (G0 c).symm ?_ (by simp) (by simp[LF]) ?_)
    ·exact O8.mpr ⟨kn.1,by simp,λ x hx y hy=>by simp at hy;clear P e2 eR hG CR it st;clear tail hR L4 L2 ht hs;subst hy;rintro rfl;exact c hx⟩
    ·rw[QJ c]at L4
     have ek:(yV (G.ks pre++[s]) λ t=>if t=s then .ref c3 else .ref (la.getD ((G.ks pre).idxOf t) 0))=yV (G.ks pre++[s]) λ t=>.ref ((la++[c3]).getD ((G.ks pre++[s]).idxOf t) 0):=ES λ t ht=>by
      by_cases e:t=s
      ·clear P e2 eR hG CR it st;clear tail hR L4 L2 ht hs;subst e
       rw[F7 rfl,Cz c,LF,C2,N2 (D7 _),hJ];rfl
      ·have Ky:t∈G.ks pre:=(G8.mp ht).resolve_right (by simpa using e)
       rw[G0 e,Da Ky,C2,C2,I4 (LF▸Y5.mpr Ky)]
     rw[ek]at L4
     exact L4
 ·intro ρ B9 hQ;intros hQ v3 hZ;intros hZ v4 Q0;intros Q0 m' P4;intros P4 la fT;obtain rfl:=fT.1;delta fT fT LF L
  have kn:=lF w (items:=items) (ks:=[]) hm ⟨.nil,λ _ h=>(nomatch h)⟩
  have kl:=NE w hm
  refine K1 (dR L λ c5 W9 L2=>?_)
  refine uX (H7 rfl (fN hW (ns:=G.ks items) (L2.get 0 rfl) (by unfold yV;rw[G2];rfl) (H8 kl (by decide)) λ c6 Li=>?_))
  have L3:=L2.alloc Li (.list ((dT (G.ks items)).map C0))
  generalize W9.set c6 (.list ((dT (G.ks items)).map C0))=Y8 at L3
  have sn:(dT (G.ks items)).Nodup:=(N8 _).nodup_iff.mpr kn.1
  refine⟨_,qS (L3.get 2 rfl) (k:=10) (by rw[(N8 _).length_eq];exact kl) rfl,eC (λ pre ρ B9=>∃(v4:PV) (m5:Nat),ρ=[.ref g,.ref a,.ref c2,v3,v4,.ref c5]∧Led σ B9 [(c2,.dict (yV (G.ks items) λ s=>.ref (la.getD ((G.ks items).idxOf s) 0)) m'),(c5,.dict (yV pre λ s=>.tup ((dT (G.eB items s)).map C0)) m5),(c6,.list ((dT (G.ks items)).map C0))] (lZ la λ i=>(G.eB items ((G.ks items).getD i 0)).map C0)) ⟨_,_,rfl,L3⟩ ?_ ?_⟩
  ·intro pre s post ρ B9 R hl hQ;intros hQ v4 hZ;intros hZ m5 Q0;clear L2;obtain rfl:=Q0.1;delta Q0 Q0 M;intro hR
   have hs:s∈G.ks items:=(N8 _).mem_iff.mp (by rw[hl];simp)
   have hn:s∉pre:=λ h=>by
    rw[hl,O8]at sn
    exact sn.2.2 s h s (.head _) rfl
   have hZ:=idx LF hs;generalize hZ.1=i1;refine A0 hZ.2 λ b hb=>?_;try clear hZ
   have hv:gD B9 (.ref c2) (C0 s)=some (.ref b):=by
    rw[GX (M.get 0 rfl) hs,C2,hb];rfl
   have DF:=M.HE (aC hb)
   rw[show(G.ks items).getD ((G.ks items).idxOf s) 0=s from by rw[C2,i1];rfl]at DF
   have rl:(G.eB items s).length<64:=by
    unfold Gr.eB
    rw[A8]
    exact H8 (H4 ..) hz
   have pl:pre.length<=10:=by
    have:=(N8 (G.ks items)).length_eq
    rw[hl,B0]at this
    lia
   refine zR (T5 (F9 (H7 (p1 (I8 rfl rfl hv)) (dD DF rl λ c7 Rc=>M0 (mN (PH.J7 ..) (mz (k:=64) (by rw[(N8 _).length_eq];exact M8 rl) rfl) (P2 rfl (P2 rfl ?_)))))))
   have M2:=M.grow (Ext.new Rc (.list ((dT (G.eB items s)).map C0)))
   refine OV 1 M2 rfl rfl (BG ..) (by unfold yV;rw[A8];exact H8 pl (by decide)) λ m6 cH _ M5=>s_end (hR _ _ _ trivial ((M5.get 2 rfl).trans (L3.get 2 rfl).symm) ⟨_,m6,rfl,?_⟩)
   rw[QJ hn,show(yV (pre++[s]) λ t=>if t=s then .tup ((dT (G.eB items s)).map C0)else .tup ((dT (G.eB items t)).map C0))=yV (pre++[s]) λ s=>.tup ((dT (G.eB items s)).map C0)from ES λ t _=>by
    by_cases e:t=s
    ·clear L3 M2 hR hb Rc hl LF hn DF hs hv hz i1 idx pl post rl sn v3 Y8;clear M5;subst e;rw[F7 rfl]
    ·rw[G0 e]]at M5
   exact M5
  ·intro ρ B9 hQ;intros hQ v4 hZ;intros hZ m5 Q0;clear L2;obtain rfl:=Q0.1;delta Q0 Q0 M
   refine X7 rfl (q c5 B9 m5 M.ext (M.new (c5,_) (G9 _ (.tail _ (.head _)))) ?_)
   rw[M.get 1 rfl]
   unfold yV Gr.kb
   rw[G2];rfl
end
structure St where
 k:List Nat
 sym:Int
 items:List Nat
 moves:List (Nat×Nat)
 iV:List Nat
instance u1:Nonempty St:=⟨⟨[],0,[],[],[]⟩⟩
structure SA where
 a:Addr
 dx:Addr
 it:Addr
 mv:Addr
 rd:Addr
 ep:Nat
def rL(l:List (Nat×Nat)):List (PK×PV):=l.map λ p=>(PK.int (p.1:Int),C0 p.2)
def SO(i:Nat)(A:SA)(s:St):List (String×PV):=[("number",C0 i),("kernel",.tup (s.k.map C0)),("symbol",.int s.sym),("items",.ref A.it),("moves",.ref A.mv),("reductions",.ref A.rd)]
def wC(i:Nat)(A:SA)(s:St):List (Addr×PO):=[(A.a,.inst 254 A.dx),(A.dx,.attrs 254 (SO i A s)),(A.it,.list (s.items.map C0)),(A.mv,.dict (rL s.moves) A.ep),(A.rd,.list (s.iV.map C0))]
def wB:Nat->List SA->List St->List (Addr×PO)
 |i,A::As,s::Ss=>wC i A s++wB (i+1) As Ss
 |_,_,_=>[]
theorem HN{i:Nat}{A:SA}{As:List SA}{s:St}{S:List St}:wB i (A::As) (s::S)=wC i A s++wB (i+1) As S:=rfl
theorem FK:∀(n:Nat) (As:List SA) (S:List St) (A:SA) (s:St),As.length=S.length->wB n (As++[A]) (S++[s])=wB n As S++wC (n+S.length) A s
 |n,[],[],A,s,_=>by show wC n A s++[]=[]++_;simp
 |n,B::As,t::S,A,s,h=>by
  rw[P7,P7,HN,HN,FK (n+1) As S A s (by simpa using h),C6]
  rw[show n+1+S.length=n+(t::S).length from by simp;lia]
theorem mK:∀(n:Nat) (As:List SA) (S:List St) (i:Nat) (A:SA) (s:St),As[i]? =some A->S[i]? =some s->∃X Y,wB n As S=X++(wC (n+i) A s++Y)∧∀A' s',wB n (As.set i A') (S.set i s')=X++(wC (n+i) A' s'++Y)
 |n,B::As,t::S,0,A,s,h1,h2=>by
  cases h1;cases h2
  exact⟨[],wB (n+1) As S,rfl,λ _ _=>rfl⟩
 |n,B::As,t::S,i+1,A,s,h1,h2=>by
  refine ee2.e (mK (n+1) As S i A s (by simpa using h1) (by simpa using h2)) λ X Y hZ=>?_;delta hZ e1 e2
  refine⟨wC n B t++X,Y,?_,λ A' s'=>?_⟩
  ·rw[HN,e1,C6];rw[show n+1+i=n+(i+1)from by lia]
  ·rw[gC,gC,HN,e2,C6];rw[show n+1+i=n+(i+1)from by lia]
 |_,[],_,_,_,_,h,_=>by simp at h
 |_,_::_,[],_,_,_,_,h=>by simp at h
def MM(k:List Nat):PK:=.bM (k.map Int.ofNat)
def oW(S:List St):List (PK×PV):=S.zipIdx.map λ p=>(MM p.1.k,C0 p.2)
theorem Ce{k l:List Nat}(h:MM k=MM l):k=l:=by
 unfold MM at h
 injection h with h
 have back:∀l:List Nat,(l.map Int.ofNat).map Int.toNat=l:=λ l=>by rw[G2];exact gK _
 rw[<-back k,h,back]
theorem xD{k:List Nat}:∀{S:List St} {n:Nat},(S.zipIdx n|>.map λ p=>(MM p.1.k,C0 p.2)).lookup (MM k)=if k∈S.map (·.k)then some (C0 (n+(S.map (·.k)).idxOf k))else none
 |[],n=>rfl
 |s::S,n=>by
  rw[List.zipIdx_cons,I6,I1,xD]
  by_cases e:k=s.k
  ·subst e;simp
  ·have:(MM k==MM s.k)=false:=by simpa using λ h=>e (Ce h)
   rw[this]
   simp only[I6,F8,e,false_or]
   split
   ·rw[List.idxOf_cons,show(s.k==k)=false from by simpa using gZ e]
    simp only[cond_false]
    congr 2
    lia
   ·rfl
theorem bE(k:List Nat):keyOf (.tup (k.map C0))=some (MM k):=by
 show(intsOf (k.map C0)).map PK.bM=_
 rw[show k.map C0=(k.map Int.ofNat).map PV.int from by rw[G2];rfl,rP];rfl
theorem EL(S:List St)(k:List Nat):U3 (MM k) (oW S)=true:=by show(oW S).all (jR ·.1)=true;unfold oW;rw[cR];exact G3.mpr λ _ _=>rfl
def bL(g c b kE st nm:Addr)(As:List SA)(S:List St)(e:Nat):List (Addr×PO):=[(b,.inst 415 kE),(kE,.attrs 415 [("grammar",.ref g),("closer",.ref c),("states",.ref st),("numbers",.ref nm)]),(st,.list (refs (As.map SA.a))),(nm,.dict (oW S) e)]
inductive BI(C8:PH)(g c b kE st nm:Addr)(X:List (Addr×PO))(As:List SA)(S:List St)(σ:PH):Prop
 |mk (e:Nat) (hl:As.length=S.length) (L:Led C8 σ (bL g c b kE st nm As S e++X) (wB 0 As S))
def lW(S:List St)(k:List Nat)(sym:Int):List St:=if k∈S.map (·.k)then S else S++[⟨k,sym,[],[],[]⟩]
def nQ(S:List St)(k:List Nat):Nat:=(S.map (·.k)).idxOf k
theorem Led.perm{C8 σ:PH}{L R L' R':List (Addr×PO)}(h:Led C8 σ L R)(p:(L'++R').Perm (L++R)):Led C8 σ L' R':=⟨(p.map _).nodup_iff.mpr h.nd,λ q hq=>h.new q (p.mem_iff.mp hq),λ q hq=>h.at_ q (p.mem_iff.mp hq),h.ext⟩
theorem Led.join{C8 σ B9:PH}{L R L' R':List (Addr×PO)}(h:Led C8 σ L R)(m:Led σ B9 L' R'):Led C8 B9 L (R++(L'++R')):=by
 have e:L++(R++(L'++R'))=(L++R)++(L'++R'):=by rw[C6]
 refine⟨?_,λ p hp=>?_,λ p hp=>?_,h.ext.trans m.ext⟩
 ·rw[e,C1]
  refine O8.mpr ⟨h.nd,m.nd,λ a ha b hb=>?_⟩
  refine A0 (D2.mp ha) λ p hZ=>?_;generalize hZ.1=hp;clear ha;obtain rfl:=hZ.2;try clear hZ
  refine A0 (D2.mp hb) λ q hZ=>?_;generalize hZ.1=hq;clear hb;obtain rfl:=hZ.2;try clear hZ
  intro e
  have h1:=h.at_ p hp
  have h2:=m.new q hq
  rw[e,h2]at h1;cases h1
 ·rw[e]at hp
  rcases G8.mp hp with hp|hp
  ·exact h.new p hp
  ·exact h.ext.none (m.new p hp)
 ·rw[e]at hp
  rcases G8.mp hp with hp|hp
  ·exact m.ext _ _ (h.at_ p hp)
  ·exact m.at_ p hp
section
variable{W:Wd}(P:dQ W){n:Nat}{σ C8:PH}{g c b kE st nm:Addr}{X:List (Addr×PO)}{As:List SA}{S:List St}{Q:PV->PH->Prop}
include P
theorem UJ{L R:List (Addr×PO)}{i:Nat}{k:List Nat}{sym:Int}(hL:Led C8 σ L R)(q:∀A B9,Ext σ B9->Led C8 B9 L (R++wC i A ⟨k,sym,[],[],[]⟩)->Q (.ref A.a) B9):J9 W (n+2) (.ref 254) [C0 i,.tup (k.map C0),.int sym] σ Q:=by
 refine vQ P 2 16 3 (r:=oK) rfl rfl (O5:=[C0 i,.tup (k.map C0),.int sym]) (λ _=>rfl) (λ _=>rfl) λ x dx aK L1=>?_
 refine Q9 rfl (K7 L1 rfl λ c1 W9 L2=>aD L2 rfl (C3 rfl) λ Y8 L3=>Q9 rfl (dR L3 λ c2 bK L4=>aD L4 rfl (C3 rfl) λ cH L5=>Q9 rfl (K7 L5 rfl λ c3 eK L6=>aD L6 rfl (C3 rfl) λ eW L7=>s_end ⟨rfl,?_⟩)))
 have:=hL.join L7
 exact q ⟨x,dx,c1,c2,c3,0⟩ eW L7.ext this
omit P in
theorem TA(S:List St)(s:St):oW (S++[s])=oW S++[(MM s.k,C0 S.length)]:=by
 unfold oW;rw[List.zipIdx_append,C1];simp
omit P in
theorem vO(S:List St)(k:List Nat):(oW S).lookup (MM k)=if k∈S.map (·.k)then some (C0 (nQ S k))else none:=by
 have:=xD (k:=k) (S:=S) (n:=0)
 rw[Y3]at this
 exact this
omit P in
theorem WT{σ:PH}{a:Addr}{S:List St}{e:Nat}{k:List Nat}(h:σ a=some (.dict (oW S) e))(hk:k∈S.map (·.k)):gD σ (.ref a) (.tup (k.map C0))=some (C0 (nQ S k)):=by
 rw[bB h (bE k),vO,F7 hk]
omit P in
theorem Pz{σ:PH}{a:Addr}{S:List St}{e:Nat}{k:List Nat}(h:σ a=some (.dict (oW S) e)):QO σ (.tup (k.map C0)) (.ref a)=some (decide (k∈S.map (·.k))):=by
 rw[tZ h (bE k) (EL S k),vO]
 by_cases c:k∈S.map (·.k)<;>simp[c]
theorem xG{k:List Nat}{sym:Int}(hB:BI C8 g c b kE st nm X As S σ)(hz:S.length<2^20)(q:∀B9 Ay,BI C8 g c b kE st nm X Ay (lW S k sym) B9->(∀(i:Nat) (A:SA),As[i]? =some A->Ay[i]? =some A)->k∈(lW S k sym).map (·.k)->Q (C0 (nQ (lW S k sym) k)) B9):
  J9 W (n+3) (.ref 398) [.ref b,.tup (k.map C0),.int sym] σ Q:=by
 obtain⟨e,hl,L⟩:=hB
 have f1:∀{B9:PH} {As:List SA} {S:List St} {e:Nat} {R:List (Addr×PO)},Led C8 B9 (bL g c b kE st nm As S e++X) R->fld B9 (.ref b) "numbers"=some (.ref nm)∧fld B9 (.ref b) "states"=some (.ref st):=λ h=>⟨(h.obj 0 1 rfl rfl).fld _,(h.obj 0 1 rfl rfl).fld _⟩
 refine P.fn gN 28 rfl (ρ:=[.ref b,.tup (k.map C0),.int sym]) rfl ?_
 have ht:pt σ [.ref b,.tup (k.map C0),.int sym] (.cmp .NotIn (.loc 1) (.attr (.loc 0) "numbers"))=some (!decide (k∈S.map (·.k))):=N3 rfl (D8 rfl (f1 L).1) (by show Option.map _ (QO σ _ _)=_;rw[Pz (L.get 3 rfl)];rfl)
 unfold lW at q
 by_cases hk:k∈S.map (·.k)
 ·rw[H3 hk]at ht
  rw[F7 hk]at q
  exact oB ht (X7 (I8 (D8 rfl (f1 L).1) rfl (WT (L.get 3 rfl) hk)) (q σ As ⟨e,hl,L⟩ (λ _ _ h=>h) hk))
 ·rw[J8 hk]at ht
  rw[G0 hk]at q
  have l1:(refs (As.map SA.a)).length=S.length:=by rw[refs,A8,A8,hl]
  refine qL ht (rF 3 (x:=C0 S.length) L rfl (V8 (D8 rfl (f1 L).2) (len_list (L.get 2 rfl) l1)) (D8 rfl (f1 L).1) rfl (bE k) (EL S k) (by unfold oW;rw[A8,List.length_zipIdx];exact nM hz (by decide)) λ e' aK _ L1=>?_)
  rw[AB (by rw[vO,G0 hk])]at L1
  have en:oW S++[(MM k,C0 S.length)]=oW (S++[⟨k,sym,[],[],[]⟩]):=(TA S ⟨k,sym,[],[],[]⟩).symm
  rw[en]at L1
  have Us:Led C8 aK ((b,.inst 415 kE)::(kE,.attrs 415 [("grammar",.ref g),("closer",.ref c),("states",.ref st),("numbers",.ref nm)])::(st,.list (refs (As.map SA.a)))::(nm,.dict (oW (S++[⟨k,sym,[],[],[]⟩])) e')::X) (wB 0 As S):=L1
  have f2:fld aK (.ref b) "states"=some (.ref st):=(Us.obj 0 1 rfl rfl).fld _
  refine N4 (T0 (D8 rfl f2) (N9 (Us.get 2 rfl) _) (F9 (H7 (I9 (V8 (D8 rfl f2) (len_list (Us.get 2 rfl) l1)) rfl) (UJ (n:=n) P (i:=S.length) Us λ A W9 E2 L2=>M0 (aW 2 L2 rfl (by rw[l1];exact M8 (nM hz (by decide))) λ Y8 _ L3=>s_end ?_)))))
  have eb:=FK 0 As S A ⟨k,sym,[],[],[]⟩ hl
  rw[Y3]at eb
  rw[<-eb]at L3
  have er:refs (As.map SA.a)++[.ref A.a]=refs ((As++[A]).map SA.a):=by simp[refs]
  rw[er]at L3
  have L4:Led C8 Y8 (bL g c b kE st nm (As++[A]) (S++[⟨k,sym,[],[],[]⟩]) e'++X) (wB 0 (As++[A]) (S++[⟨k,sym,[],[],[]⟩])):=L3
  have hm:k∈(S++[(⟨k,sym,[],[],[]⟩:St)]).map (·.k):=by simp
  exact X7 (I8 (D8 rfl (f1 L4).1) rfl (WT (L4.get 3 rfl) hm)) (q Y8 (As++[A]) ⟨e',by simp[hl],L4⟩ (λ i B h=>by rw[I4 (D3.mp h).1];exact h) hm)
end
theorem Ak{G:Gr}{m s:Nat}(hm:m<G.aR.length)(h:G.cL m=some s):m+1<G.aR.length:=
 have it:=Gr.it hm
 have j:G.It (m+1) (G.S6 m) (G.PR m) (G.rT m+1):=⟨it.rule,(D3.mp h).1,(C7 (·+1) it.at_).trans (kC ..)⟩
 (D3.mp j.own).1
theorem Gr.yP{G:Gr}{i:Nat}(hi:i<G.rules.length):G.aR[G.off i]? =some i:=Gr.It.own (d:=0) ⟨C4 hi,K3 _,rfl⟩
theorem of_lt{G:Gr}{l:List Nat}{i:Nat}(h:i∈l.flatMap G.of):i<G.rules.length:=let⟨_,_,h⟩:=P6.mp h;(vM h).1
theorem Gh{G:Gr}(k:List Nat):(G.HV k).Nodup:=by
 refine List.Pairwise.filter _ (X3.mpr (bJ (R:=(·≠·)) (λ{a b} ha hb ne e=>ne (H1 ((Gr.yP (of_lt ha)).symm.trans ((C7 (G.aR[·]?) e).trans (Gr.yP (of_lt hb)))))) ?_))
 refine List.pairwise_flatMap.mpr ⟨λ a _=>List.nodup_range.filter _,(List.nodup_range.filter _).imp λ ne x hx y hy e=>?_⟩
 have hZ:=vM hx;refine A0 hZ.2 λ r Q0=>?_;delta Q0 h1 h2;try clear hZ
 have hZ:=vM hy;refine A0 hZ.2 λ r' Q0=>?_;delta Q0 h3 h4;try clear hZ
 rw[e,h3]at h1;clear h3;cases h1
 exact ne (h2.symm.trans h4)
theorem CH{G:Gr}{k:List Nat}{m:Nat}(h:m∈G.HV k):m<G.aR.length∧m∉k:=by
 have hZ:=J5.mp h;delta hZ h1 h2
 refine A0 (D2.mp h1) λ i hZ=>?_;generalize hZ.1=hi;clear h1 h;obtain rfl:=hZ.2;try clear hZ
 exact⟨(D3.mp (Gr.yP (of_lt hi))).1,by simpa using h2⟩
structure Gr.Ks(G:Gr)(k:List Nat):Prop where
 nd:k.Nodup
 lt:∀m∈k,m<G.aR.length
theorem Gr.Ks.len{G:Gr}{k:List Nat}(h:G.Ks k)(w:G.Wf):k.length<=15:=A9 (Y2 h.nd h.lt) w.own
theorem Gr.Ks.close{G:Gr}{k:List Nat}(h:G.Ks k):G.Ks (G.close k):=by
 refine⟨O8.mpr ⟨(N8 _).nodup_iff.mpr h.nd,(N8 _).nodup_iff.mpr (Gh k),λ a ha b hb e=>?_⟩,λ m hm=>?_⟩
 ·exact(CH ((N8 _).mem_iff.mp hb)).2 (e▸(N8 _).mem_iff.mp ha)
 ·rcases G8.mp hm with hm|hm
  ·exact h.lt m ((N8 _).mem_iff.mp hm)
  ·exact(CH ((N8 _).mem_iff.mp hm)).1
theorem Gr.Ks.eB{G:Gr}{l:List Nat}(h:G.Ks l)(s:Nat):G.Ks (dT (G.eB l s)):=by
 have nd:(G.eB l s).Nodup:=X3.mpr ((h.nd.filter _).imp λ ne e=>ne (Nat.succ.inj e))
 refine⟨(N8 _).nodup_iff.mpr nd,λ m hm=>?_⟩
 refine A0 (D2.mp ((N8 _).mem_iff.mp hm)) λ x hZ=>?_;generalize hZ.1=hx;clear hm;obtain rfl:=hZ.2;try clear hZ
 have hZ:=J5.mp hx;delta hZ h1 h2
 exact Ak (h.lt x h1) (eq_of_beq h2)
def aH(i:Nat)(S:List St)(q:Nat×List Nat):List St:=(lW S q.2 q.1).modify i λ s=>{s with moves:=s.moves++[(q.1,nQ (lW S q.2 q.1) q.2)]}
def Gr.TQ(G:Gr)(S:List St)(i:Nat):List St:=S.modify i λ s=>{s with items:=G.close s.k,iV:=dT (G.eG (G.close s.k))}
def Gr.Kp(G:Gr)(S:List St)(i:Nat):List (Nat×List Nat):=G.kb (G.close (S.getD i ⟨[],0,[],[],[]⟩).k)
def Gr.ex(G:Gr)(S:List St)(i:Nat):List St:=(G.Kp S i).foldl (aH i) (G.TQ S i)
def Oi(k:List Nat):Prop:=k.Pairwise (·<·)∧k≠[]
structure Gr.KP(G:Gr)(S:List St):Prop where
 nd:(S.map (·.k)).Nodup
 ks:∀s∈S,G.Ks s.k∧Oi s.k
def code(k:List Nat):Nat:=k.foldr (λ x a=>2^x|||a) 0
theorem BV(i:Nat):∀k:List Nat,(code k).testBit i=decide (i∈k)
 |[]=>Nat.zero_testBit i
 |x::k=>by
  show(2^x|||code k).testBit i=_
  rw[nU,Nat.testBit_two_pow,BV i k]
  simp[eq_comm]
theorem RP{N:Nat}:∀{k:List Nat},(∀m∈k,m<N)->code k<2^N
 |[],_=>Z7 N
 |x::k,h=>Z4 (kH (by decide) (h x (.head _))) (RP λ m hm=>h m (.tail _ hm))
theorem code_inj{k l:List Nat}(h:k.Pairwise (·<·))(h':l.Pairwise (·<·))(e:code k=code l):k=l:=by
 have m:∀i,i∈k↔i∈l:=λ i=>eN.mp ((BV i k).symm.trans ((C7 (Nat.testBit · i) e).trans (BV i l)))
 exact List.Perm.eq_of_pairwise (λ a b _ _ h1 h2=>absurd h1 (Nat.lt_asymm h2)) h h' ((List.perm_ext_iff_of_nodup (h.imp U6) (h'.imp U6)).mpr m)
theorem Gr.KP.len{G:Gr}{S:List St}(w:G.Wf)(h:G.KP S):S.length<=32768:=by
 have nd:(S.map λ s=>code s.k).Nodup:=X3.mpr (bJ (λ{a b} ha hb ne e=>ne (code_inj (h.ks a ha).2.1 (h.ks b hb).2.1 e)) (X3.mp h.nd))
 have:=Y2 (N:=2^G.aR.length) nd λ x hx=>by
  refine A0 (D2.mp hx) λ s hZ=>?_;generalize hZ.1=hs;clear hx;obtain rfl:=hZ.2;try clear hZ
  exact RP (h.ks s hs).1.lt
 rw[A8]at this
 exact A9 this (Nat.pow_le_pow_right (by decide) w.own)
theorem QD{S:List St}{i:Nat}{f:St->St}(h:∀s,(f s).k=s.k):(S.modify i f).map (·.k)=S.map (·.k):=by
 refine iA λ j=>?_
 rw[H9,H9,aY]
 cases S[j]? with
 |none=>rfl
 |some s=>by_cases e:i=j<;>simp[e,h]
theorem Gr.KP.mod{G:Gr}{S:List St}(h:G.KP S){i:Nat}{f:St->St}(hf:∀s,(f s).k=s.k):G.KP (S.modify i f):=by
 refine⟨(QD hf).symm▸h.nd,λ s hs=>?_⟩
 have:s.k∈S.map (·.k):=QD (i:=i) hf▸J2 hs
 refine A0 (D2.mp this) λ t hZ=>?_;delta hZ ht e
 exact e▸h.ks t ht
theorem Gr.KP.num{G:Gr}{S:List St}(h:G.KP S){k:List Nat}(hk:G.Ks k∧Oi k)(y:Int):G.KP (lW S k y):=by
 unfold lW
 split
 ·exact h
 ·rename_i c
  refine⟨?_,λ s hs=>?_⟩
  ·rw[C1]
   exact O8.mpr ⟨h.nd,.cons (λ _ h=>(nomatch h)) .nil,λ a ha b hb e=>c (show k∈_ from(show a=k from e.trans (D5.mp hb))▸ha)⟩
  ·rcases G8.mp hs with hs|hs
   ·exact h.ks s hs
   ·exact D5.mp hs▸hk
theorem NC{G:Gr}{y:Nat}:∀{items ks:List Nat},y∈items.foldl G.gE ks->y∈ks∨∃m∈items,G.cL m=some y
 |[],_,h=>.inl h
 |m::items,ks,h=>by
  rcases NC (items:=items) h with h|⟨x,hx,e⟩
  ·unfold Gr.gE at h
   split at h
   ·rename_i s e
    split at h
    ·exact .inl h
    ·exact(G8.mp h).imp id λ h=>⟨m,.head _,e.trans (C7 some (D5.mp h).symm)⟩
   ·exact .inl h
  ·exact .inr ⟨x,.tail _ hx,e⟩
theorem Hq{G:Gr}{k:List Nat}(h:G.Ks k):∀q∈G.kb (G.close k),G.Ks q.2∧Oi q.2:=λ q hq=>by
 refine A0 (D2.mp hq) λ s hZ=>?_;generalize hZ.1=hs;clear hq;obtain rfl:=hZ.2;try clear hZ
 have:=h.close.eB s
 refine A0 ((NC ((N8 _).mem_iff.mp hs)).resolve_left λ h=>nomatch h) λ m hZ=>?_;delta hZ hm e
 exact⟨this,(this.nd.and (FY _)).imp λ h=>Nat.lt_of_le_of_ne h.2 h.1,List.ne_nil_of_mem ((N8 _).mem_iff.mpr (J2 (J5.mpr ⟨hm,by rw[e];exact O2 _⟩)))⟩
theorem TP{G:Gr}{S:List St}{i:Nat}{q:Nat×List Nat}(h:G.KP S)(hq:G.Ks q.2∧Oi q.2):G.KP (aH i S q):=(h.num hq _).mod λ _=>rfl
theorem NM{G:Gr}{i:Nat}:∀{l:List (Nat×List Nat)} {S:List St},G.KP S->(∀q∈l,G.Ks q.2∧Oi q.2)->G.KP (l.foldl (aH i) S)
 |[],_,h,_=>h
 |q::l,S,h,hl=>NM (l:=l) (TP h (hl q (.head _))) λ x hx=>hl x (.tail _ hx)
theorem GQ{S:List St}{i:Nat}{s:St}(h:S[i]? =some s)(k:List Nat)(y:Int):(lW S k y)[i]? =some s:=by
 unfold lW
 split
 ·exact h
 ·rw[I4 (D3.mp h).1];exact h
theorem Xx(i:Nat)(S:List St)(q:Nat×List Nat):(aH i S q).map (·.k)=(lW S q.2 q.1).map (·.k):=QD λ _=>rfl
theorem Py(S:List St)(k:List Nat)(y:Int):S.map (·.k)<+:(lW S k y).map (·.k)∧k∈(lW S k y).map (·.k):=by
 unfold lW
 split
 ·rename_i h;exact⟨sI _,h⟩
 ·rw[C1];exact⟨List.prefix_append ..,G4 _ (.head _)⟩
theorem JM{S S':List St}{k:List Nat}(p:S.map (·.k)<+:S'.map (·.k))(h:k∈S.map (·.k)):nQ S' k=nQ S k:=by
 intros p t e
 unfold nQ
 rw[<-e,List.idxOf_append,F7 h]
theorem NN{i:Nat}:∀(l:List (Nat×List Nat)) {S:List St} {s:St},S[i]? =some s->(l.foldl (aH i) S)[i]? =some {s with moves:=s.moves++l.map λ q=>(q.1,nQ (l.foldl (aH i) S) q.2)}∧S.map (·.k)<+:(l.foldl (aH i) S).map (·.k)∧∀q∈l,q.2∈(l.foldl (aH i) S).map (·.k)
 |[],S,s,h=>⟨by rw[nN,C9];exact h,sI _,λ _ h=>nomatch h⟩
 |q::l,S,s,h=>by
  have hZ:=NN l (S:=aH i S q) (s:={s with moves:=s.moves++[(q.1,nQ (lW S q.2 q.1) q.2)]}) (by unfold aH;rw[aY,GQ h];simp);delta hZ h1 h2 h3
  have hZ:=Py S q.2 q.1;delta hZ n1 n2
  rw[Xx]at h2
  rw[J0]
  refine⟨h1.trans ?_,n1.trans h2,λ x hx=>?_⟩
  ·rw[<-JM h2 n2,C6];rfl
  ·clear h1 n1;rcases F8.mp hx with rfl|hx
   ·exact h2.subset n2
   ·exact h3 x hx
theorem set_same{α:Type}{l:List α}{i:Nat}{x:α}(h:l[i]? =some x):l.set i x=l:=(fF h x).2.trans (fF h x).1.symm
theorem Led.swap{C8 σ:PH}{L U V:List (Addr×PO)}{p q:Addr×PO}(h:Led C8 σ (L++[q]) (U++p::V)):Led C8 σ L (U++q::V):=
 (h.sub (L':=L++[q]) (R':=U++V) (.append (.refl _) (.append (.refl _) (.cons _ (.refl _))))).perm (by rw[C6];exact .append_left _ List.perm_middle)
structure DM(σ:PH)(i:Nat)(A:SA)(s:St):Prop where
 ins:σ A.a=some (.inst 254 A.dx)
 Un:σ A.dx=some (.attrs 254 (SO i A s))
 it:σ A.it=some (.list (s.items.map C0))
 mv:σ A.mv=some (.dict (rL s.moves) A.ep)
 rd:σ A.rd=some (.list (s.iV.map C0))
theorem DM.ext{σ B9:PH}(E:Ext σ B9){i:Nat}{A:SA}{s:St}(h:DM σ i A s):DM B9 i A s:=⟨E _ _ h.ins,E _ _ h.Un,E _ _ h.it,E _ _ h.mv,E _ _ h.rd⟩
theorem DM.ob{σ:PH}{i:Nat}{A:SA}{s:St}(h:DM σ i A s):aS σ A.a 254 (SO i A s):=⟨A.dx,h.ins,h.Un⟩
theorem uW{α:Type}{l:List α}{i:Nat}{x:α}(h:l[i]? =some x)(y:α):(l.set i y)[i]? =some y:=by rw[aX,F7 rfl,F7 (D3.mp h).1]
theorem Gb{As:List SA}{S:List St}{i:Nat}{A:SA}{s:St}(hA:As[i]? =some A)(hs:S[i]? =some s){p:Addr×PO}(hp:p∈wC i A s):p∈wB 0 As S:=by
 refine ee2.e (mK 0 As S i A s hA hs) λ U V hZ=>?_;delta hZ e
 rw[e,Y3]
 exact G4 _ (G9 _ hp)
theorem Led.st{C8 σ:PH}{L:List (Addr×PO)}{As:List SA}{S:List St}(h:Led C8 σ L (wB 0 As S)){i:Nat}{A:SA}{s:St}(hA:As[i]? =some A)(hs:S[i]? =some s):DM σ i A s:=
 have m:=λ j {a o} (e:(wC i A s)[j]? =some (a,o))=>h.at_ (a,o) (G4 _ (Gb hA hs (B5 e)))
 ⟨m 0 rfl,m 1 rfl,m 2 rfl,m 3 rfl,m 4 rfl⟩
theorem Kd{S S':List St}(h:S.map (·.k)=S'.map (·.k)):oW S=oW S':=by
 have e:∀S:List St,oW S=(S.map (·.k)).zipIdx.map λ p=>(MM p.1,C0 p.2):=λ S=>by rw[List.zipIdx_map,G2];rfl
 rw[e,e,h]
section
variable{σ B4 C8:PH}{g c b kE st nm:Addr}{X:List (Addr×PO)}{As:List SA}{S:List St}{i j:Nat}{A A':SA}{s s':St}{a c':Addr}{o o':PO}
theorem Ah(hA:As[i]? =some A)(hs:S[i]? =some s)(ha:A'.a=A.a)(hk:s'.k=s.k)(e:Nat):bL g c b kE st nm (As.set i A') (S.set i s') e=bL g c b kE st nm As S e:=by
 unfold bL
 rw[hY,ha,set_same (by rw[H9,hA];rfl),Kd (S:=S.set i s') (S':=S) (by rw[hY,hk];exact set_same (by rw[H9,hs];rfl))]
theorem BI.put(h:BI C8 g c b kE st nm X As S σ)(hA:As[i]? =some A)(hs:S[i]? =some s)(ha:A'.a=A.a)(hk:s'.k=s.k)(j:Nat)(e:(wC i A s)[j]? =some (a,o))(e':wC i A' s'=(wC i A s).set j (a,o')):BI C8 g c b kE st nm X (As.set i A') (S.set i s') (σ.set a o'):=by
 obtain⟨z,hl,L⟩:=h
 refine ee2.e (mK 0 As S i A s hA hs) λ U V hZ=>?_;delta hZ e1 e2
 rw[Y3]at e1 e2
 have hZ:=fF e (a,o');delta hZ p1 p2
 refine⟨z,by rw[O9,O9];exact hl,?_⟩
 rw[Ah hA hs ha hk]
 refine L.put (o:=o) (X:=(bL g c b kE st nm As S z++X)++(U++(wC i A s).take j)) (Y:=(wC i A s).drop (j+1)++V) ?_ ?_
 ·rw[e1];conv=>lhs;rw[p1]
  simp only[C6,P7]
 ·rw[e2,e',p2];simp only[C6,P7]
theorem BI.fld(h:BI C8 g c b kE st nm X As S σ)(E:Ext σ B4)(hc:σ c'=none)(h2:B4 c'=some o')(hA:As[i]? =some A)(hs:S[i]? =some s)(ha:A'.a=A.a)(hk:s'.k=s.k)(j:Nat)(e:(wC i A s)[j]? =some (a,o)){o1 o2:PO}(e1:((wC i A s).set j (c',o'))[1]? =some (A.dx,o1))(e':wC i A' s'=((wC i A s).set j (c',o')).set 1 (A.dx,o2)):
  BI C8 g c b kE st nm X (As.set i A') (S.set i s') (B4.set A.dx o2):=by
 obtain⟨z,hl,L⟩:=h
 refine ee2.e (mK 0 As S i A s hA hs) λ U V hZ=>?_;delta hZ f1 f2
 rw[Y3]at f1 f2
 have hZ:=fF e (c',o');delta hZ p1 p2
 have hZ:=fF e1 (A.dx,o2);delta hZ p3 p4
 have L1:=L.adopt E hc h2
 rw[f1]at L1
 have L2:Led C8 B4 (bL g c b kE st nm As S z++X) (U++((wC i A s).set j (c',o')++V)):=by
  have:=Led.swap (U:=U++(wC i A s).take j) (V:=(wC i A s).drop (j+1)++V) (p:=(a,o)) (q:=(c',o')) (L:=bL g c b kE st nm As S z++X) (by rw[C6 U,<-P7,<-C6 ((wC i A s).take j),<-p1];exact L1)
  rw[p2,C6,P7,<-C6]
  exact this
 refine⟨z,by rw[O9,O9];exact hl,?_⟩
 rw[Ah hA hs ha hk]
 refine L2.put (o:=o1) (X:=(bL g c b kE st nm As S z++X)++(U++((wC i A s).set j (c',o')).take 1)) (Y:=((wC i A s).set j (c',o')).drop 2++V) ?_ ?_
 ·conv=>lhs;rw[p3]
  simp only[C6,P7]
 ·rw[f2,e',p4];simp only[C6,P7]
end
section
variable{W:Wd}{n:Nat}{σ:PH}{ρ:List PV}{r:V0}{K:Fl->List PV->PH->Prop}{e:PE}
theorem PN{f:String}{a:Addr}(i:Nat)(h0:ρ[i]? =some (.ref a))(he:(wp W tb n e).v ρ σ λ x B4=>∃C dx fs,B4 a=some (.inst C dx)∧B4 dx=some (.attrs C fs)∧tb.fld C f=true∧fs.length<=100∧S8 W tb n r ρ (B4.set dx (.attrs C (lS f x fs))) K):
  S8 W tb n (.cons (.Q1 (.loc i) f e) r) ρ σ K:=by
 show(wp W tb n e).v ρ σ λ x B4=>(wp W tb n (.loc i)).v ρ B4 λ ov H6=>kO tb H6 f x (λ R9=>S8 W tb n r ρ R9 K) ov
 refine Eq.mp (C7 _ ?_) he
 funext x B4
 show _=match ρ[i]? with|some .M7=>False|some v=>kO tb B4 f x (λ R9=>S8 W tb n r ρ R9 K) v|none=>False
 rw[h0]
 rfl
end
section
variable{σ C8:PH}{g c b kE t nm:Addr}{X Y:List (Addr×PO)}{As:List SA}{S:List St}{i:Nat}{A:SA}{s:St}
theorem BI.ob(h:BI C8 g c b kE t nm X As S σ):aS σ b 415 [("grammar",.ref g),("closer",.ref c),("states",.ref t),("numbers",.ref nm)]∧Ext C8 σ∧σ t=some (.list (refs (As.map SA.a)))∧As.length=S.length:=
 let⟨_,hl,L⟩:=h;⟨L.obj 0 1 rfl rfl,L.ext,L.get 2 rfl,hl⟩
theorem BI.st(h:BI C8 g c b kE t nm X As S σ)(hA:As[i]? =some A)(hs:S[i]? =some s):DM σ i A s:=let⟨_,_,L⟩:=h;L.st hA hs
theorem BI.adopt{c':Addr}{o:PO}{B9:PH}(h:BI C8 g c b kE t nm X As S σ)(E:Ext σ B9)(hc:σ c'=none)(h2:B9 c'=some o):BI C8 g c b kE t nm (X++[(c',o)]) As S B9:=
 let⟨z,hl,L⟩:=h;⟨z,hl,C6 .. ▸L.adopt E hc h2⟩
theorem BI.drop(h:BI C8 g c b kE t nm (X++Y) As S σ):BI C8 g c b kE t nm X As S σ:=let⟨z,hl,L⟩:=h;⟨z,hl,Led.drop (X:=Y) (C6 .. ▸L)⟩
theorem BI.x(h:BI C8 g c b kE t nm (X++Y) As S σ){p:Addr×PO}(hp:p∈Y):σ p.1=some p.2:=let⟨_,_,L⟩:=h;L.at_ p (G9 _ (G4 _ (G4 _ hp)))
end
theorem MX{S:List St}{i:Nat}{s:St}(h:S[i]? =some s)(f:St->St):S.modify i f=S.set i (f s):=by
 refine iA λ j=>?_
 rw[aY,aX]
 by_cases e:i=j
 ·subst e;rw[h];simp[(D3.mp h).1]
 ·simp[e]
theorem TC{l:List (Nat×Nat)}{y:Nat}(h:y∉l.map (·.1)):(rL l).lookup (.int y)=none:=by
 rw[List.lookup_eq_none_iff]
 intro p hp
 refine A0 (D2.mp hp) λ q hZ=>?_;generalize hZ.1=hq;clear hp;obtain rfl:=hZ.2;try clear hZ
 refine bG.mpr λ e=>h ?_
 injection e with e
 exact qZ e▸J2 hq
theorem EO(l:List (Nat×Nat))(y:Int):U3 (.int y) (rL l)=true:=G3.mpr λ p hp=>by
 refine A0 (D2.mp hp) λ q hZ=>?_;clear hp;obtain rfl:=hZ.2;try clear hZ;rfl
theorem Kq{σ:PH}{a:Addr}{G:Gr}{items:List Nat}{m:Nat}{x:Nat×List Nat}(h:σ a=some (.dict ((G.kb items).map λ p=>(PK.int p.1,.tup (p.2.map C0))) m))(hx:x∈G.kb items):gD σ (.ref a) (C0 x.1)=some (.tup (x.2.map C0)):=by
 refine A0 (D2.mp hx) λ s hZ=>?_;generalize hZ.1=hs;clear hx;obtain rfl:=hZ.2;try clear hZ
 exact GX (v:=λ s=>.tup ((dT (G.eB items s)).map C0)) (by rw[h];unfold Gr.kb yV;rw[G2];rfl) hs
theorem Kr{G:Gr}(w:G.Wf){items:List Nat}(hm:∀m∈items,m<G.aR.length):(G.kb items).length<=10:=by unfold Gr.kb;rw[A8,(N8 _).length_eq];exact NE w hm
theorem Hr{G:Gr}(w:G.Wf){items:List Nat}(hm:∀m∈items,m<G.aR.length):((G.kb items).map (·.1)).Nodup:=by
 unfold Gr.kb
 rw[G2]
 exact(gK (dT _)).symm▸(N8 _).nodup_iff.mpr (lF w hm ⟨.nil,λ _ h=>(nomatch h)⟩).1
section
variable{W:Wd}(P:dQ W){n:Nat}{σ C8:PH}{g c b kE st nm:Addr}{X:List (Addr×PO)}{As:List SA}{S:List St}{Q:PV->PH->Prop}{G:Gr}(hG:pZ C8 g G)(w:G.Wf)(hC:wJ C8 c g G)
include P hG w hC
theorem ZT(hW:W.Ok){i:Nat}{A:SA}{s:St}(hB:BI C8 g c b kE st nm X As S σ)(hS:G.KP S)(hA:As[i]? =some A)(hs:S[i]? =some s)(hm:s.moves=[])(q:∀B9 Ay,BI C8 g c b kE st nm X Ay (G.ex S i) B9->Q .none B9):J9 W (n+5) (.ref 405) [.ref b,.ref A.a] σ Q:=by
 refine P.fn kW 29 rfl (ρ:=[.ref b,.ref A.a,.M7,.M7]) rfl ?_
 have hZ:=hB.ob;delta hZ ob E0
 have is:=hB.st hA hs
 have hk:=hS.ks s (B5 hs)
 have zk:=hk.1.len w
 have Zq:=Kr w (hk.1.close).lt
 have Nq:=hk.1.close
 have zi:=Nq.len w
 have Yv:(G.close s.k).length<64:=H8 zi (by decide)
 refine PN 1 rfl (J1 (D8 rfl (ob.fld _)) ((hC.ext E0).H2 "close" 293 (by simp)) (p1 (D8 rfl (is.ob.fld _))) (Ft (n:=n) P (hG.ext E0) w (hC.ext E0) hk.1.lt (H8 zk (by decide)) λ c1 aK E1 Nu h1=>⟨254,A.dx,SO i A s,E1 _ _ is.ins,E1 _ _ is.Un,rfl,C3 rfl,?_⟩))
 have B1:=hB.fld E1 Nu h1 hA hs (A':={A with it:=c1}) (s':={s with items:=G.close s.k}) (o2:=.attrs 254 (lS "items" (.ref c1) (SO i A s))) rfl rfl 2 rfl rfl rfl
 generalize aK.set A.dx _=W9 at B1
 clear is ob
 have Xk:=uW hA {A with it:=c1}
 have Ws:=uW hs {s with items:=G.close s.k}
 have hZ:=B1.ob;delta hZ ob E0
 have is:=B1.st Xk Ws
 refine PN 1 rfl (H7 (I9 (D8 rfl (ob.fld _)) (p1 (D8 rfl (is.ob.fld _)))) (NZ (n:=n+2) P (hG.ext E0) is.it Nq.lt Yv λ c2 Y8 E3 Bh h2=>⟨254,A.dx,_,E3 _ _ is.ins,E3 _ _ is.Un,rfl,C3 rfl,?_⟩))
 have B2:=B1.fld E3 Bh h2 Xk Ws (A':={A with it:=c1,rd:=c2}) (s':={s with items:=G.close s.k,iV:=dT (G.eG (G.close s.k))}) (o2:=.attrs 254 (lS "reductions" (.ref c2) (SO i {A with it:=c1} {s with items:=G.close s.k}))) rfl rfl 4 rfl rfl rfl
 rw[List.set_set,List.set_set]at B2
 generalize Y8.set A.dx _=bK at B2
 clear is ob B1 E3
 have i4:=uW hA {A with it:=c1,rd:=c2}
 have Hv:=uW hs {s with items:=G.close s.k,iV:=dT (G.eG (G.close s.k))}
 have hZ:=B2.ob;delta hZ ob E0
 have is:=B2.st i4 Hv
 refine K1 (H7 (I9 (D8 rfl (ob.fld _)) (p1 (D8 rfl (is.ob.fld _)))) (UF (n:=n+1) P (hG.ext E0) w hW is.it Nq.lt Yv λ c3 cH m' E5 CR h3=>?_))
 have B3:=B2.adopt E5 CR h3
 have e0:S.set i {s with items:=G.close s.k,iV:=dT (G.eG (G.close s.k))}=G.TQ S i:=(MX hs λ s=>{s with items:=G.close s.k,iV:=dT (G.eG (G.close s.k))}).symm
 rw[e0]at B3 Hv
 have ek:G.Kp S i=G.kb (G.close s.k):=by unfold Gr.Kp;rw[C2,hs];rfl
 have bp:G.KP (G.TQ S i):=hS.mod λ _=>rfl
 clear is ob B2 E5 CR h3 E0 e0 Ws Xk
 generalize j2:({s with items:=G.close s.k,iV:=dT (G.eG (G.close s.k))}:St)=s2 at Hv
 have Wy:s2.moves=[]:=j2▸hm
 clear j2
 let F:PV->List PV:=λ v=>[.ref b,.ref A.a,.ref c3,v]
 refine f_1 (l:=G.kb (G.close s.k)) (f:=λ q=>C0 q.1) (v:=.ref c3) (F:=F) (λ pre _ B9=>∃Ay A',Ay[i]? =some A'∧A'.a=A.a∧BI C8 g c b kE st nm (X++[(c3,.dict ((G.kb (G.close s.k)).map λ p=>(PK.int p.1,.tup (p.2.map C0))) m')]) Ay (pre.foldl (aH i) (G.TQ S i)) B9) rfl rfl ?_ ⟨_,_,i4,rfl,B3⟩ ?_ ?_
 ·exact yW (B3.x (.head _)) (G3.mpr λ p hp=>by refine A0 (D2.mp hp) λ q hZ=>?_;clear hp;obtain rfl:=hZ.2;try clear hZ;rfl) (by rw[G2];rfl) (GV Zq (by decide))
 ·intro pre x post v3 eK R hl hQ;intros hQ Ay A' hZ;delta hZ Xl ha B;intro hR
  have hZ:=B.ob;delta hZ ob E0
  have hx:=(P5 hl).2
  have ok:=NM (i:=i) bp λ y hy=>Hq hk.1 y (hl.symm▸G9 _ hy)
  have hZ:=NN pre Hv;delta hZ Wr
  have em:(s2.moves++pre.map λ q=>(q.1,nQ (pre.foldl (aH i) (G.TQ S i)) q.2)).map (·.1)=pre.map (·.1):=by rw[Wy,X5,G2];rfl
  generalize s2.moves++pre.map (λ q=>(q.1,nQ (pre.foldl (aH i) (G.TQ S i)) q.2))=mv at Wr em
  have B':BI C8 g c b kE st nm _ Ay (pre.foldl (aH i) (G.TQ S i)) eK:=B
  generalize e3:pre.foldl (aH i) (G.TQ S i)=S3 at ok Wr B'
  refine zR (J1 rfl (ob.H2 "number_of" rfl rfl) (I9 (I8 rfl rfl (Kq (B.x (.head _)) hx)) (p1 rfl)) (xG (n:=n+1) P (k:=x.2) (sym:=x.1) B' (H8 (ok.len w) (by decide)) λ eW fy B7 x7 _=>?_))
  have Xj:=x7 i A' Xl
  have Wq:=GQ Wr x.2 x.1
  have Zr:=B7.st Xj Wq
  refine P2 (x:=.ref A'.mv) (D8 (v:=.ref A'.a) (by rw[ha];rfl) (Zr.ob.fld _)) (P2 rfl ?_)
  show cF _ _ (eW A'.mv)
  rw[Zr.mv]
  have zm:(rL mv).length=pre.length:=by have:=C7 List.length em;rw[A8,A8]at this;rw[rL,A8,this]
  have nx:x.1∉mv.map (·.1):=λ h=>by
   rw[em]at h
   have nd:=Hr w Nq.lt
   rw[hl,C1]at nd
   exact(O8.mp nd).2.2 x.1 h x.1 (.head _) rfl
  refine⟨.int x.1,rfl,EO ..,by rw[zm];exact D1 (P5 hl).1 (A9 Zq (by decide)),λ TU=>?_⟩
  have B8:=B7.put Xj Wq (A':={A' with ep:=TU}) (s':={s2 with moves:=mv++[(x.1,nQ (lW S3 x.2 x.1) x.2)]}) (o':=.dict (putK (.int x.1) (C0 (nQ (lW S3 x.2 x.1) x.2)) (rL mv)) TU) rfl rfl 3 rfl (by rw[AB (TC nx)];show wC i _ {s2 with moves:=mv++[_]}=_;unfold wC rL;rw[C1];rfl)
  refine s_end (hR .next _ _ trivial ((B8.x (.head _)).trans (B3.x (.head _)).symm) ⟨_,{A' with ep:=TU},uW Xj _,ha,?_⟩)
  rw[K9]
  show BI C8 g c b kE st nm _ _ (aH i (pre.foldl (aH i) (G.TQ S i)) x) _
  rw[e3]
  unfold aH
  rw[MX Wq]
  exact B8
 ·intro v eK hQ;intros hQ Ay A' hZ;delta hZ Xl ha B
  exact s_end (q eK Ay (by unfold Gr.ex;rw[ek];exact B.drop))
end
theorem Led.rebase{C8 σ:PH}{L R:List (Addr×PO)}(h:Led C8 σ L R):∃τ,Ext C8 τ∧Led τ σ L R∧∀a o,σ a=some o->a∉(L++R).map (·.1)->τ a=some o:=by
 classical
 refine⟨λ a=>if a∈(L++R).map (·.1)then none else σ a,λ a o e=>(G0 λ m=>?_).trans (h.ext a o e),⟨h.nd,λ p hp=>F7 (J2 hp),h.at_,λ a o e=>?_⟩,λ a o e n=>(G0 n).trans e⟩
 ·refine A0 (D2.mp m) λ p hZ=>?_;generalize hZ.1=hp;clear m;obtain rfl:=hZ.2;try clear hZ
  rw[h.new p hp]at e;cases e
 ·by_cases c:a∈(L++R).map (·.1)
  ·exact absurd ((F7 c).symm.trans e) (λ h=>nomatch h)
  ·exact(G0 c).symm.trans e
theorem Led.out{C8 σ:PH}{L R:List (Addr×PO)}(h:Led C8 σ L R){a:Addr}{o:PO}(e:σ a=some o)(n:∀p∈L++R,p.2≠o):a∉(L++R).map (·.1):=λ m=>by
 refine A0 (D2.mp m) λ p hZ=>?_;generalize hZ.1=hp;clear m;obtain rfl:=hZ.2;try clear hZ
 exact n p hp (H1 ((h.at_ p hp).symm.trans e))
theorem Led.freeze{C8 σ:PH}{L R M:List (Addr×PO)}(h:Led C8 σ L R)(hs:List.Sublist M (L++R)):∃τ,Ext C8 τ∧Led τ σ M []∧∀q∈L++R,q.1∉M.map (·.1)->τ q.1=some q.2:=by
 refine A0 ((h.sub (L':=M) (R':=[]) (by rw[C9];exact hs)).rebase) λ τ hZ=>?_;delta hZ E L' k
 exact⟨τ,E,L',λ q hq n=>k _ _ (h.at_ q hq) (by rw[C9];exact n)⟩
section
variable{W:Wd}{n:Nat}{σ:PH}{ρ:List PV}{r b:V0}{K:Fl->List PV->PH->Prop}{e c:PE}{Q:PV->PH->Prop}
theorem He{β:Type}(F:β->List PV)(m:β->Nat)(I:β->PH->Prop)(y:β)(t:β->PH->Bool)(HB:ρ=F y)(h0:I y σ)(ht:∀y σ,I y σ->pt σ (F y) c=some (t y σ))
  (hs:∀y σ (R:Fl->List PV->PH->Prop),I y σ->t y σ=true->(∀fl y' B9,fl.go->m y'<m y->I y' B9->R fl (F y') B9)->S8 W tb n b (F y) σ R)(hk:∀y σ,I y σ->t y σ=false->S8 W tb n r (F y) σ K):S8 W tb n (.cons (.IA c b) r) ρ σ K:=
 PL (I:=λ k ρ σ=>∃y,ρ=F y∧k=m y∧I y σ) (m y) ⟨y,HB,rfl,h0⟩ λ k ρ σ R Va hR=>by
  intros Va y hZ;delta hZ e1 e2 i
  subst e1 e2
  refine uS (ht y σ i) ?_
  cases e:t y σ
  ·exact hk y σ i e
  ·exact hs y σ R i e λ fl y' B9 g l i'=>hR fl _ B9 _ g l ⟨y',rfl,rfl,i'⟩
theorem FT{f:String}{as:uL}(h:(wp W tb n e).v ρ σ λ ov B4=>∃fv,dY tb B4 ov f=some fv∧DN W tb n as ρ B4 λ xs H6=>J9 W n fv (ov::xs) H6 Q):(wp W tb n (.H2 e f as)).v ρ σ Q:=h
end
def Gr.sE(G:Gr):Nat->List St
 |0=>[⟨[0], -1,[],[],[]⟩]
 |t+1=>G.ex (G.sE t) t
structure Gr.IsT(G:Gr)(T:Nat):Prop where
 le:(G.sE T).length<=T
 lt:∀j,j<T->j<(G.sE j).length
theorem Gr.IsT.uniq{G:Gr}{T U:Nat}(h:G.IsT T)(k:G.IsT U):T=U:=
 (qF T U).elim (λ c=>absurd (k.lt T c) (jM.mpr h.le)) λ c=>c.elim id λ c=>absurd (h.lt U c) (jM.mpr k.le)
theorem Rq{G:Gr}{S:List St}(h:G.KP S)(i:Nat):G.KP (G.ex S i):=by
 refine NM (h.mod λ _=>rfl) λ q hq=>Hq (k:=(S.getD i ⟨[],0,[],[],[]⟩).k) ?_ q hq
 rw[C2]
 cases e:S[i]? with
 |none=>exact⟨.nil,λ _ h=>nomatch h⟩
 |some s=>exact(h.ks s (B5 e)).1
theorem OC{G:Gr}(w:G.Wf):∀t,G.KP (G.sE t)
 |0=>⟨.cons (λ _ h=>nomatch h) .nil,λ s hs=>by
   rewrite[D5.mp hs]
   exact⟨⟨.cons (λ _ h=>nomatch h) .nil,λ m hm=>by
    rewrite[D5.mp hm]
    exact(D3.mp (Gr.yP (i:=0) w.pos)).1⟩,.cons (λ _ h=>nomatch h) .nil,sM _ _⟩⟩
 |t+1=>Rq (OC w t) t
def lM(i:Nat)(S:List St):Prop:=∀j s,i<=j->S[j]? =some s->s.moves=[]
theorem lM.mod{i k:Nat}{S:List St}{f:St->St}(h:lM i S)(hk:k<i):lM i (S.modify k f):=λ j s hj e=>by
 refine h j s hj ?_
 rw[<-e,aY]
 cases S[j]? with
 |none=>rfl
 |some x=>exact C7 some (G0 (U6 (D1 hk hj))).symm
theorem lM.num{i:Nat}{S:List St}{k:List Nat}{y:Int}(h:lM i S):lM i (lW S k y):=by
 unfold lW
 split
 ·exact h
 ·intro j s hj e
  rw[List.getElem?_append]at e
  split at e
  ·exact h j s hj e
  ·exact D5.mp (B5 e)▸rfl
theorem lM.i9{i k:Nat}(hk:k<i):∀{l:List (Nat×List Nat)} {S:List St},lM i S->lM i (l.foldl (aH k) S)
 |[],_,h=>h
 |q::l,S,h=>lM.i9 hk (l:=l) (h.num.mod hk)
theorem wD(G:Gr):∀t,lM t (G.sE t)
 |0=>λ j s _ e=>D5.mp (B5 e)▸rfl
 |t+1=>lM.i9 (K5 t) (lM.mod (λ j s hj e=>wD G t j s (hU hj) e) (K5 t))
structure KR(σ:PH)(a g t:Addr)(As:List SA)(S:List St):Prop where
 ob:aS σ a 373 [("grammar",.ref g),("states",.ref t)]
 sl:σ t=some (.list (refs (As.map SA.a)))
 len:As.length=S.length
 st:∀i A s,As[i]? =some A->S[i]? =some s->DM σ i A s
theorem KR.ext{σ B9:PH}(E:Ext σ B9){a g t:Addr}{As:List SA}{S:List St}(h:KR σ a g t As S):KR B9 a g t As S:=⟨h.ob.ext E,E _ _ h.sl,h.len,λ i A s x y=>(h.st i A s x y).ext E⟩
section
variable{W:Wd}(P:dQ W){n:Nat}{σ C8:PH}{g:Addr}{Q:PV->PH->Prop}{G:Gr}(w:G.Wf)
include P w
theorem UL(hG:pZ σ g G)(q:∀b τ c kE st nm B9,Ext σ τ->wJ τ c g G->BI τ g c b kE st nm [] [] [] B9->Q (.ref b) B9):J9 W (n+5) (.ref 415) [.ref g] σ Q:=by
 refine vQ P 5 27 1 (r:=oQ) rfl rfl (O5:=[.ref g]) (λ _=>rfl) (λ _=>rfl) λ x dx aK L1=>?_
 refine Q9 rfl (H7 rfl (ZX (n:=n) P (hG.ext L1.ext) w λ c W9 E2 hC=>?_))
 refine A0 ((L1.grow E2).rebase) λ τ hZ=>?_;delta hZ E L2 fZ
 have br:wJ τ c g G:=by
  intros hC a hZ;refine A0 hZ.1 λ dd P4=>?_;delta P4 h1 h2;delta hZ hZ h3
  have no:∀{o:PO},(∀y,o≠.inst 415 y)->(∀fs,o≠.attrs 415 fs)->∀p∈[(x,PO.inst 415 dx),(dx,.attrs 415 [("grammar",.ref g)])]++[],p.2≠o:=λ i j p hp e=>by
   cases hp with
   |head=>exact i _ e.symm
   |tail _ hp=>cases hp with
    |head=>exact j _ e.symm
    |tail _ hp=>cases hp
  exact⟨a,⟨dd,fZ _ _ h1 (Led.out (L1.grow E2) h1 (no (λ _ e=>by cases e) λ _ e=>by cases e)),fZ _ _ h2 (Led.out (L1.grow E2) h2 (no (λ _ e=>by cases e) λ _ e=>by cases e))⟩,fZ _ _ h3 (Led.out (L1.grow E2) h3 (no (λ _ e=>by cases e) λ _ e=>by cases e))⟩
 exact aD L2 rfl (C3 rfl) λ Y8 L3=>Q9 rfl (K7 L3 rfl λ c1 bK L4=>aD L4 rfl (C3 rfl) λ cH L5=>Q9 rfl (dR L5 λ c2 eK L6=>aD L6 rfl (C3 rfl) λ eW L7=>s_end ⟨rfl,q x τ c dx c1 c2 eW E br ⟨0,rfl,L7⟩⟩))
theorem Fv(hW:W.Ok){c b kE st nm:Addr}(hG:pZ C8 g G)(hC:wJ C8 c g G)(hB:BI C8 g c b kE st nm [] [] [] σ)(q:∀a T As B9,Ext C8 B9->G.IsT T->KR B9 a g st As (G.sE T)->Q (.ref a) B9):J9 W (n+6) (.ref 412) [.ref b] σ Q:=by
 refine P.fn nH 30 rfl (ρ:=[.ref b,.M7]) rfl ?_
 have hZ:=hB.ob;delta hZ ob E0
 have e0:[C0 (G.off 0+0)]=[0].map C0:=rfl
 refine N4 (T0 rfl (ob.H2 "number_of" rfl rfl) (F9 (dK (F9 (J1 (D8 rfl (ob.fld _)) ((hG.ext E0).H2 "item" 157 (by simp)) rfl (NW (n:=n+4) P (hG.ext E0) (d:=0) w.pos (M0 (F9 (P2 (x:=.int (-1)) rfl (M0 (xG (n:=n+2) P (k:=[0]) (sym:= -1) hB (by decide) λ aK gc B1 _ _=>?_)))))))))))
 let F:Nat->List PV:=λ t=>[.ref b,C0 t]
 refine P3 rfl (He F (λ t=>32768 - t) (λ t B9=>(∃As,BI C8 g c b kE st nm [] As (G.sE t) B9)∧∀j,j<t->j<(G.sE j).length) 0 (λ t _=>decide ((t:Int)<((G.sE t).length:Int))) rfl ⟨⟨_,B1⟩,λ _ h=>absurd h (Z8 _)⟩ ?_ ?_ ?_)
 ·intro t B9 hQ;refine A0 hQ.1 λ As B=>?_;try clear hQ
  have hZ:=B.ob;delta hZ ob hZ h1 hl
  exact N3 rfl (V8 (D8 rfl (ob.fld _)) (len_list h1 (by rw[refs,A8,A8,hl]))) rfl
 ·intro t B9 R hQ;refine A0 hQ.1 λ As B=>?_;delta hQ hQ lt;intro ht hR
  have hZ:=B.ob;delta hZ ob hZ h1 hl
  have ht:=T7.mp (D0 ht)
  have ok:=OC w t
  have hA:=C4 (hl.symm▸ht:t<As.length)
  have hs:=C4 ht
  refine N4 (J1 rfl (ob.H2 "expand" rfl rfl) (p1 (I8 (D8 rfl (ob.fld _)) rfl (I0 h1 (V5 (V5 hA))))) (ZT (n:=n) P hG w hC hW B ok hA hs (wD G t t _ (D7 t) hs) λ W9 gb B2=>?_))
  exact P3 (x:=C0 (t+1)) rfl (s_end (hR .next (t+1) W9 trivial (Nat.sub_lt_sub_left (D1 ht (ok.len w)) (K5 t)) ⟨⟨_,B2⟩,λ j hj=>(Y4.mp hj).elim (lt j) λ e=>e▸ht⟩))
 ·intro t B9 hQ;refine A0 hQ.1 λ As B=>?_;delta hQ hQ lt;intro ht
  have hZ:=B.ob;delta hZ ob E1 h1 hl
  refine W3 (H7 (I9 (D8 rfl (ob.fld _)) (p1 (D8 rfl (ob.fld _)))) (tV P kX 25 4 rfl rfl (O5:=[.ref g,.ref st]) (λ _=>rfl) (λ _=>rfl) λ x W9 E2 _ O=>?_))
  refine q x t As W9 (E1.trans E2) ⟨jN λ h=>K6 ht (T7.mpr h),lt⟩ ⟨O,E2 _ _ h1,hl,λ i A s x y=>(B.st x y).ext E2⟩
theorem RW(hW:W.Ok)(hG:pZ σ g G)(q:∀a T t As B9,Ext σ B9->G.IsT T->KR B9 a g t As (G.sE T)->Q (.ref a) B9):J9 W (n+7) (.ref 426) [.ref g] σ Q:=
 P.fn PX 31 rfl (ρ:=[.ref g]) rfl (W3 (FT (H7 rfl (UL (n:=n+1) P w hG λ b τ c kE st nm aK E hC B=>⟨.ref 412,B.ob.1.H2 "built" rfl rfl,M0 (Fv (n:=n) P w hW (hG.ext E) hC B λ a T As B9 E' hT hA=>q a T st As B9 (E.trans E') hT hA)⟩))))
end
def bl(l:List Nat)(a b:Nat):Prop:=(l.getD a 0).testBit b=true
theorem uR{l:List Nat}{m o a b:Nat}(ho:o<l.length):bl (cT l m o) a b↔bl l a b∨(And (a=o) (And (bl l a m) (bl l m b))):=by
 have e:bl l o m↔l.getD o 0/2^m%2=1:=by unfold bl;rw[Nat.testBit_eq_decide_div_mod_eq];exact decide_eq_true_iff
 unfold cT
 split
 ·rename_i c
  by_cases d:a=o
  ·subst d
   have:(l.set a (l.getD a 0|||l.getD m 0)).getD a 0=l.getD a 0|||l.getD m 0:=by rw[C2,aX,F7 rfl,F7 ho];rfl
   unfold bl at*
   rw[this,nU,Bool.or_eq_true]
   exact or_congr_right ⟨λ h=>⟨rfl,e.mpr c,h⟩,λ h=>h.2.2⟩
  ·have:(l.set o (l.getD o 0|||l.getD m 0)).getD a 0=l.getD a 0:=by rw[C2,aX,G0 (gZ d),C2]
   unfold bl
   rw[this]
   exact⟨.inl,λ h=>h.elim id λ h=>absurd h.1 d⟩
 ·rename_i c
  exact⟨.inl,λ h=>h.elim id λ⟨h1,h2,_⟩=>absurd (e.mp (h1▸h2)) c⟩
theorem Gs{m a b:Nat}:∀(os l:List Nat),(∀o∈os,o<l.length)->(bl (os.foldl (λ l o=>cT l m o) l) a b↔bl l a b∨(And (a∈os) (And (bl l a m) (bl l m b))))
 |[],l,h=>⟨.inl,λ h=>h.elim id λ h=>nomatch h.1⟩
 |o::os,l,h=>by
  have ho:=h o (.head _)
  have e1:bl (cT l m o) a m↔bl l a m:=(uR ho).trans ⟨λ h=>h.elim id (·.2.1),.inl⟩
  have e2:bl (cT l m o) m b↔bl l m b:=(uR ho).trans ⟨λ h=>h.elim id (·.2.2),.inl⟩
  rw[J0,Gs os _ (λ x hx=>by rw[zJ];exact h x (.tail _ hx)),e1,e2,uR ho,F8,or_assoc,<-or_and_right]
theorem uQ{l:List Nat}{m a b:Nat}(ha:a<l.length):bl (qI l m) a b↔bl l a b∨(And (bl l a m) (bl l m b)):=
 (Gs _ l λ o h=>N1.mp h).trans (or_congr_right (and_iff_right (N1.mpr ha)))
def Cl(n m:Nat)(l:List Nat):Prop:=l.length=n∧∀j a b,j<m->a<n->bl l a j->bl l j b->bl l a b
theorem Cl.row{n m:Nat}{l:List Nat}(h:Cl n m l)(hm:m<n):Cl n (m+1) (qI l m):=by
 generalize h=hZ;try clear h;delta hZ hl h
 refine⟨(dS ..).trans hl,λ j a b hj ha h1 h2=>?_⟩
 subst hl
 have Qv:j<l.length:=D1 hj hm
 refine(uQ ha).mpr ?_
 rcases Y4.mp hj with hj|rfl
 ·rcases (uQ ha).mp h1 with h1|⟨h1,h3⟩<;>rcases (uQ Qv).mp h2 with h2|⟨h2,h4⟩
  ·exact .inl (h j a b hj ha h1 h2)
  ·exact .inr ⟨h j a m hj ha h1 h2,h4⟩
  ·exact .inr ⟨h1,h j m b hj hm h3 h2⟩
  ·exact .inr ⟨h1,h4⟩
 ·exact .inr ⟨((uQ ha).mp h1).elim id (·.1),((uQ Qv).mp h2).elim id (·.2)⟩
theorem Gu{n:Nat}:∀(k m:Nat) (l:List Nat),m+k=n->Cl n m l->Cl n n ((List.range' m k).foldl qI l)
 |0,m,l,e,h=>by rw[<-e]at*;exact h
 |k+1,m,l,e,h=>by
  rw[List.range'_succ,J0]
  exact Gu k (m+1) _ (by lia) (h.row (by lia))
theorem Je(l:List Nat):Cl l.length l.length (Tb l):=by
 show Cl _ _ ((List.range l.length).foldl qI l)
 rw[List.range_eq_range']
 exact Gu l.length 0 l (Y3 _) ⟨rfl,λ j a b h=>absurd h (Z8 j)⟩
theorem PA{a b:Nat}:∀(ms l:List Nat),a<l.length->bl l a b->bl (ms.foldl qI l) a b
 |[],_,_,h=>h
 |m::ms,l,ha,h=>PA ms (qI l m) ((dS m _ l).symm▸ha) ((uQ ha).mpr (.inl h))
theorem Dm{a b:Nat}{l:List Nat}(r:Rl)(h:bl l a b):bl (gF l r) a b:=by
 unfold gF
 split
 ·exact h
 ·unfold bl at*
  rw[C2,aX]
  split
  ·rename_i e
   subst e
   split
   ·show(l.getD r.left 0|||_).testBit b=true
    rw[nU,h];rfl
   ·rename_i c
    rw[C2,jC (jN c)]at h
    exact h
  ·rw[<-C2];exact h
theorem YA{r:Rl}{s:Nat}{q:List Nat}(e:r.right=s::q):∀{rs l:List _},r.left<l.length->(r∈rs∨bl l r.left s)->bl (rs.foldl gF l) r.left s
 |[],l,_,h=>h.elim (λ h=>nomatch h) id
 |x::rs,l,hl,h=>by
  refine YA e (rs:=rs) ((rR [x] l).symm▸hl) ?_
  rcases h with h|h
  ·rcases F8.mp h with rfl|h
   ·refine .inr ?_
    unfold gF bl
    rw[e]
    show((l.set r.left _).getD r.left 0).testBit s=true
    rw[C2,aX,F7 rfl,F7 hl]
    show(l.getD r.left 0|||2^s).testBit s=true
    rw[nU,Nat.testBit_two_pow_self,Bool.or_true]
   ·exact .inl h
  ·exact .inr (Dm x h)
def Gr.Wa(G:Gr)(k:List Nat)(y:Nat):Prop:=∃m∈k,∃s,G.cL m=some s∧(y=s∨bl G.jW s y)
theorem zF{G:Gr}{y:Nat}:∀(k:List Nat) (z:Nat),(k.foldl G.wM z).testBit y=true↔z.testBit y=true∨G.Wa k y
 |[],z=>⟨.inl,λ h=>h.elim id λ⟨_,h,_⟩=>nomatch h⟩
 |m::k,z=>by
  rw[J0,zF k]
  unfold Gr.wM
  cases e:G.cL m with
  |none=>exact⟨λ h=>h.imp id λ⟨x,hx,h⟩=>⟨x,.tail _ hx,h⟩,λ h=>h.imp id λ⟨x,hx,s,e',h⟩=>⟨x,(F8.mp hx).resolve_left (λ q=>by rw[q,e]at e';cases e'),s,e',h⟩⟩
  |some s=>
   simp only[nU,Bool.or_eq_true,Nat.testBit_two_pow,P8]
   constructor
   ·rintro (((h|h)|h)|⟨x,hx,h⟩)
    ·exact .inl h
    ·exact .inr ⟨m,.head _,s,e,.inl h.symm⟩
    ·exact .inr ⟨m,.head _,s,e,.inr h⟩
    ·exact .inr ⟨x,.tail _ hx,h⟩
   ·rintro (h|⟨x,hx,t,e',h⟩)
    ·exact .inl (.inl (.inl h))
    ·rcases F8.mp hx with rfl|hx
     ·rw[e]at e';cases e'
      exact h.elim (λ h=>.inl (.inl (.inr h.symm))) λ h=>.inl (.inr h)
     ·exact .inr ⟨x,hx,t,e',h⟩
theorem OU{G:Gr}{k:List Nat}{y:Nat}:y∈X6 (G.wanted k) G.names.length↔And (y<G.names.length) (G.Wa k y):=by
 have:=zF (G:=G) (y:=y) k 0
 rw[Nat.zero_testBit,Nat.testBit_eq_decide_div_mod_eq,decide_eq_true_iff]at this
 unfold X6
 rw[J5,N1,jL]
 exact and_congr_right λ _=>this.trans ⟨λ h=>h.elim (λ h=>nomatch h) id,.inr⟩
theorem vZ{G:Gr}{k:List Nat}{m:Nat}:m∈G.close k↔m∈k∨m∈G.HV k:=by
 unfold Gr.close
 rw[G8,(N8 _).mem_iff,(N8 _).mem_iff]
theorem ZI{G:Gr}(w:G.Wf){k:List Nat}{m y:Nat}(hm:m∈G.close k)(h:G.cL m=some y):G.Wa k y:=by
 rcases vZ.mp hm with hm|hm
 ·exact⟨m,hm,y,h,.inl rfl⟩
 ·refine A0 (D2.mp (J5.mp hm).1) λ i hZ=>?_;generalize hZ.1=hi;clear hm;obtain rfl:=hZ.2;try clear hZ
  refine A0 (P6.mp hi) λ x hZ=>?_;delta hZ hx hi
  have hZ:=OU.mp hx;generalize hZ.1=w9;refine A0 hZ.2 λ m0 Q0=>?_;generalize Q0.1=ae;refine A0 Q0.2 λ s0 fT=>?_;delta fT e0 h0;try clear Q0;try clear hZ
  have hZ:=vM hi;generalize hZ.1=XQ;refine A0 hZ.2 λ r Q0=>?_;delta Q0 er el;try clear hZ
  have it:G.It (G.off i) i r 0:=⟨er,K3 _,rfl⟩
  have hZ:=it.I;delta hZ i1 i2 i3
  unfold Gr.cL at h
  rw[i2,i3]at h
  have hr:=B5 er
  have hb:bl G.jW x y:=by
   clear e0;cases e:r.right with
   |nil=>rw[e]at h;cases h
   |cons s q=>
    rw[e]at h;cases h
    have:bl G.zU r.left y:=YA e (l:=List.replicate G.names.length 0) (K8.symm▸w.left r hr) (.inl hr)
    exact el▸PA _ _ ((rR _ _).trans K8▸w.left r hr) this
  refine⟨m0,ae,s0,e0,.inr ?_⟩
  clear e0;rcases h0 with rfl|h0
  ·exact hb
  ·have fl:G.zU.length=G.names.length:=(rR _ _).trans K8
   have cl:=Je G.zU
   by_cases c:s0<G.names.length
   ·exact cl.2 x s0 y (fl▸w9) (fl▸c) h0 hb
   ·unfold bl at h0
    rw[C2,jC (by rw[G.BO];exact jN c)]at h0
    exact absurd h0 (by rw[show(none:Option Nat).getD 0=0 from rfl,Nat.zero_testBit];exact C5)
theorem ZJ{G:Gr}{k:List Nat}{y i:Nat}(hy:y<G.names.length)(h:G.Wa k y)(hi:i∈G.of y):G.off i∈G.close k:=by
 refine vZ.mpr (Classical.byCases (p:=G.off i∈k) .inl λ c=>.inr ?_)
 exact J5.mpr ⟨J2 (P6.mpr ⟨y,OU.mpr ⟨hy,h⟩,hi⟩),by rw[J8 c];rfl⟩
structure Gr.Dn(G:Gr)(S:List St)(s:St):Prop where
 it:s.items=G.close s.k
 rd:s.iV=dT (G.eG s.items)
 mv:s.moves=(G.kb s.items).map λ q=>(q.1,nQ S q.2)
 kn:∀q∈G.kb s.items,q.2∈S.map (·.k)
theorem Gr.Dn.mono{G:Gr}{S S':List St}{s:St}(p:S.map (·.k)<+:S'.map (·.k))(h:G.Dn S s):G.Dn S' s:=
 ⟨h.it,h.rd,h.mv.trans (P1 λ q hq=>by rw[JM p (h.kn q hq)]),λ q hq=>p.subset (h.kn q hq)⟩
theorem RB{i j:Nat}(ne:i≠j){s:St}:∀{l:List (Nat×List Nat)} {S:List St},S[j]? =some s->(l.foldl (aH i) S)[j]? =some s
 |[],_,h=>h
 |q::l,S,h=>RB ne (l:=l) (by unfold aH;rw[aY,GQ h];exact C7 some (G0 ne))
theorem Rs{G:Gr}{S:List St}{i:Nat}{s:St}(h:S[i]? =some s)(hm:s.moves=[]):(∃s',(G.ex S i)[i]? =some s'∧G.Dn (G.ex S i) s')∧S.map (·.k)<+:(G.ex S i).map (·.k):=by
 have h0:(G.TQ S i)[i]? =some {s with items:=G.close s.k,iV:=dT (G.eG (G.close s.k))}:=by unfold Gr.TQ;rw[MX h];exact uW h _
 have hZ:=NN (G.Kp S i) h0;delta hZ h1 h2 h3
 have ek:G.Kp S i=G.kb (G.close s.k):=by unfold Gr.Kp;rw[C2,h];rfl
 refine⟨⟨_,h1,rfl,rfl,?_,?_⟩,?_⟩
 ·show s.moves++(G.Kp S i).map (λ q=>(q.1,nQ (G.ex S i) q.2))=(G.kb (G.close s.k)).map _
  rw[hm,<-ek];rfl
 ·rw[<-ek];exact h3
 ·rw[show(G.TQ S i).map (·.k)=S.map (·.k)from QD λ _=>rfl]at h2
  exact h2
theorem Aa{G:Gr}:∀t,(∀j,j<t->j<(G.sE j).length)->∀i s,i<t->(G.sE t)[i]? =some s->G.Dn (G.sE t) s
 |0,_,i,_,h,_=>absurd h (Z8 i)
 |t+1,hl,i,s,hi,e=>by
  have ht:=C4 (hl t (K5 t))
  have hZ:=Rs (G:=G) ht (wD G t t _ (D7 t) ht);refine A0 hZ.1 λ s' Q0=>?_;delta Q0 h1 h2;delta hZ hZ h3
  clear ht;rcases Y4.mp hi with hi|rfl
  ·have hb:i<(G.sE t).length:=nM hi (hl t (K5 t))
   have e0:=C4 hb
   have e1:(G.sE (t+1))[i]? =some (G.sE t)[i]:=RB (Nat.ne_of_gt hi) (by unfold Gr.TQ;rw[aY,e0];exact C7 some (G0 (Nat.ne_of_gt hi)))
   rw[e1]at e
   cases e
   exact(Aa t (λ j hj=>hl j (dI hj)) i _ hi e0).mono h3
  ·have e':(G.ex (G.sE i) i)[i]? =some s:=e
   rw[h1]at e'
   clear e h1 h3 hi hl;cases e'
   exact h2
structure yK(G:Gr)(S:List St):Prop where
 ks:∀s∈S,G.Ks s.k
 it:∀s∈S,s.items=G.close s.k
 rd:∀s∈S,s.iV=dT (G.eG s.items)
 nd:∀s∈S,(s.moves.map (·.1)).Nodup
 mv:∀s∈S,∀p∈s.moves,p.1<G.names.length∧p.2<S.length∧∃m∈s.items,G.cL m=some p.1
 go:∀s∈S,∀m∈s.items,∀y,G.cL m=some y->∃j t,(y,j)∈s.moves∧S[j]? =some t∧m+1∈t.items
 cl:∀s∈S,∀m∈s.items,∀y,G.cL m=some y->∀i∈G.of y,G.off i∈s.items
 len:S.length<=32768
 kp:∀s∈S,Oi s.k
theorem yK.lt{G:Gr}{S:List St}(h:yK G S){s:St}(hs:s∈S):∀m∈s.items,m<G.aR.length:=by rw[h.it s hs];exact(h.ks s hs).close.lt
theorem WS{S:List St}{k:List Nat}(h:k∈S.map (·.k)):nQ S k<S.length∧∃t,S[nQ S k]? =some t∧t.k=k:=by
 have h1:=Y5.mpr h
 have h2:=nW h1
 rw[List.getElem_map]at h2
 rw[A8]at h1
 exact⟨h1,_,C4 h1,h2⟩
theorem uI{G:Gr}(w:G.Wf){T:Nat}(h:G.IsT T):yK G (G.sE T):=by
 have ok:=OC w T
 have dn:∀s∈G.sE T,G.Dn (G.sE T) s:=λ s hs=>by
  refine A0 (List.mem_iff_getElem.mp hs) λ i hZ=>?_;intros hZ hi e
  exact Aa T h.lt i s (D1 hi h.le) (e▸C4 hi)
 have lt:∀s∈G.sE T,∀m∈s.items,m<G.aR.length:=λ s hs=>by rw[(dn s hs).it];exact(ok.ks s hs).1.close.lt
 have mm:∀s∈G.sE T,∀p,p∈s.moves↔∃y,And (y∈G.ks s.items) ((y,nQ (G.sE T) (dT (G.eB s.items y)))=p):=λ s hs p=>by
  rw[(dn s hs).mv]
  unfold Gr.kb
  rw[G2,D2]
  exact exists_congr λ y=>and_congr_left λ _=>(N8 _).mem_iff
 have mk:∀s∈G.sE T,∀y∈G.ks s.items,dT (G.eB s.items y)∈(G.sE T).map (·.k):=λ s hs y hy=>(dn s hs).kn (y,_) (J2 ((N8 _).mem_iff.mpr hy))
 refine⟨λ s hs=>(ok.ks s hs).1,λ s hs=>(dn s hs).it,λ s hs=>(dn s hs).rd,λ s hs=>?_,λ s hs p hp=>?_,λ s hs m hm y e=>?_,λ s hs m hm y e i hi=>?_,ok.len w,λ s hs=>(ok.ks s hs).2⟩
 ·rw[(dn s hs).mv,G2]
  exact Hr w (lt s hs)
 ·refine A0 ((mm s hs p).mp hp) λ y hZ=>?_;generalize hZ.1=hy;clear hp;obtain rfl:=hZ.2;try clear hZ
  exact⟨(lF w (lt s hs) ⟨.nil,λ _ h=>nomatch h⟩).2 y hy,(WS (mk s hs y hy)).1,(NC hy).resolve_left λ h=>nomatch h⟩
 ·have hy:y∈G.ks s.items:=ND e (.inl hm)
  have hZ:=WS (mk s hs y hy);generalize hZ.1=h1;refine A0 hZ.2 λ t Q0=>?_;delta Q0 h2 h3;try clear hZ
  refine⟨_,t,(mm s hs _).mpr ⟨y,hy,rfl⟩,h2,?_⟩
  rw[(dn t (B5 h2)).it,h3]
  exact vZ.mpr (.inl ((N8 _).mem_iff.mpr (J2 (J5.mpr ⟨hm,by rw[e];exact O2 _⟩))))
 ·have:=ZI w ((dn s hs).it▸hm) e
  rw[(dn s hs).it]
  exact ZJ (HU w (lt s hs m hm) e) this hi
abbrev CP:SA:=⟨0,0,0,0,0,0⟩
abbrev aA:St:=⟨[],0,[],[],[]⟩
section
variable{σ B9:PH}{a g t:Addr}{As:List SA}{S:List St}(h:KR σ a g t As S)
include h
theorem KR.at{i:Nat}(hi:i<S.length):DM σ i (As.getD i CP) (S.getD i aA):=h.st i _ _ (W5 CP (h.len.symm▸hi)) (W5 aA hi)
theorem KR.it(z:S.length<=32768):mB σ (.ref t) ((List.range S.length).map λ i=>.ref (As.getD i CP).a):=by
 have e:refs (As.map SA.a)=(List.range S.length).map λ i=>.ref (As.getD i CP).a:=by
  conv=>lhs;rw[zW CP As]
  rw[refs,G2,G2,h.len];rfl
 exact V6 (e▸h.sl) (by rw[A8,D9];exact A9 z (by decide))
theorem KR.sub{i:Nat}(hi:i<S.length):gD σ (.ref t) (C0 i)=some (.ref (As.getD i CP).a):=I0 h.sl (V5 (V5 (W5 CP (h.len.symm▸hi))))
end
theorem yK.Kn{G:Gr}{S:List St}(h:yK G S)(w:G.Wf){s:St}(hs:s∈S):(s.moves.map (·.1)).length<=10:=A9 (Y2 (h.nd s hs) λ x hx=>by refine A0 (D2.mp hx) λ p hZ=>?_;generalize hZ.1=hp;clear hx;obtain rfl:=hZ.2;try clear hZ;exact(h.mv s hs p hp).1) w.names
theorem WV{a:Bool}(h:(!a)=true):a=false:=by cases a;rfl;cases h
theorem Qa{a:Bool}(h:(!a)=false):a=true:=by cases a;cases h;rfl
theorem vB{k j:PK}{x:PV}{es:List (PK×PV)}:(putK k x es).lookup j=if j=k then some x else es.lookup j:=by
 induction es with
 |nil=>
  show List.lookup j [(k,x)]=_
  rw[I1]
  by_cases c:j=k
  ·rw[F7 c,jL.mpr c]
  ·rw[G0 c,O0.mpr c]
 |cons p l ih=>
  rw[lR]
  by_cases e:p.1=k
  ·rw[F7 e,I1,I1,e]
   by_cases c:j=k
   ·rw[F7 c,jL.mpr c]
   ·rw[G0 c,O0.mpr c]
  ·rw[G0 e,I1,I1,ih]
   by_cases c:j=p.1
   ·rw[jL.mpr c];exact(G0 (c▸e)).symm
   ·rw[O0.mpr c]
theorem tL{k:PK}{x:PV}{es:List (PK×PV)}:(putK k x es).length<=es.length+1:=by
 induction es with
 |nil=>exact D7 _
 |cons p l ih=>
  rw[lR]
  split
  ·exact cN _
  ·exact O1 ih
theorem tM{q:PK->Bool}{k:PK}{x:PV}{es:List (PK×PV)}(h:es.all (λ p=>q p.1)=true)(hk:q k=true):(putK k x es).all (λ p=>q p.1)=true:=by
 induction es with
 |nil=>exact(Bool.and_true _).trans hk
 |cons p l ih=>
  have hZ:=F0.mp h;delta hZ h1 h2
  rw[lR]
  split
  ·exact F0.mpr ⟨hk,h2⟩
  ·exact F0.mpr ⟨h1,ih h2⟩
abbrev k2(i y:Nat):PK:=MM [i,y]
abbrev Jd(p:Nat×Nat):List PV:=[C0 p.1,C0 p.2]
structure Bm(G:Gr)(S:List St)(D:Nat->Nat->Prop)(b:Nat)(tr:List (Nat×Nat))(es:List (PK×PV)):Prop where
 mem:∀p∈tr,p.1<S.length∧¬p.2<G.tc∧p.2∈(S.getD p.1 aA).moves.map (·.1)
 ix:∀i y,D i y->y∈(S.getD i aA).moves.map (·.1)->¬y<G.tc->∃j,j<tr.length∧es.lookup (k2 i y)=some (C0 j)
 kt:es.all (λ p=>jR p.1)=true
 el:es.length<=tr.length
 len:tr.length<=b
theorem Bm.add{G:Gr}{S:List St}{D D':Nat->Nat->Prop}{b:Nat}{tr:List (Nat×Nat)}{es:List (PK×PV)}(h:Bm G S D b tr es){i y:Nat}(hi:i<S.length)(hy:y∈(S.getD i aA).moves.map (·.1))(ht:¬y<G.tc)
  (hD:∀j z,D' j z->D j z∨(j=i∧z=y)):Bm G S D' (b+1) (tr++[(i,y)]) (putK (k2 i y) (C0 tr.length) es):=by
 have el:(tr++[(i,y)]).length=tr.length+1:=B0
 refine⟨T8 h.mem ⟨hi,ht,hy⟩,λ j z d hz nz=>?_,tM h.kt rfl,?_,?_⟩
 ·rw[vB,el]
  split
  ·exact⟨_,K5 _,rfl⟩
  ·rename_i c
   refine A0 (h.ix j z ((hD j z d).resolve_right λ e=>c (by rw[e.1,e.2])) hz nz) λ k hZ=>?_;delta hZ h1 h2
   exact⟨k,dI h1,h2⟩
 ·rw[el];exact A9 tL (O1 h.el)
 ·rw[el];exact O1 h.len
theorem Bm.skip{G:Gr}{S:List St}{D D':Nat->Nat->Prop}{b b':Nat}{tr:List (Nat×Nat)}{es:List (PK×PV)}(h:Bm G S D b tr es)(hb:b<=b')(hD:∀j z,D' j z->z∈(S.getD j aA).moves.map (·.1)->¬z<G.tc->D j z):Bm G S D' b' tr es:=
 ⟨h.mem,λ j z d hz nz=>h.ix j z (hD j z d hz nz) hz nz,h.kt,h.el,A9 h.len hb⟩
theorem Led.self{C8 σ:PH}{L R:List (Addr×PO)}{x C dx:Addr}{fs:List (String×PV)}(h:Led C8 σ ((x,.inst C dx)::(dx,.attrs C fs)::L) R){f:String}{v:PV}(e:fs.lookup f=some v):fld σ (.ref x) f=some v:=((h.obj 0 1 rfl rfl).fld f).trans e
section
variable{W:Wd}{n:Nat}{σ:PH}{ρ:List PV}{B:Bool->PH->Prop}{e:PE}
theorem PC{f:String}{as:uL}(h:(wp W tb n (.H2 e f as)).v ρ σ λ x B9=>∃b,zI B9 x=some b∧B b B9):(wp W tb n (.H2 e f as)).t ρ σ B:=h
end
theorem iF{W:Wd}{n:Nat}{σ:PH}{ρ:List PV}{r b b':V0}{K:Fl->List PV->PH->Prop}{e:PE}(h:(wp W tb n e).t ρ σ λ t B4=>(t=true->S8 W tb n b ρ B4 (zP W n r K))∧(t=false->S8 W tb n b' ρ B4 (zP W n r K))):S8 W tb n (.cons (.ite e b b') r) ρ σ K:=by
 refine Ca (Eq.mp (C7 _ ?_) h)
 funext t B4
 refine propext ⟨λ h=>?_,λ h=>⟨λ e=>?_,λ e=>?_⟩⟩
 ·cases t
  ·exact h.2 rfl
  ·exact h.1 rfl
 ·subst e;exact h
 ·subst e;exact h
section
variable{W:Wd}(P:dQ W){n:Nat}{σ C8:PH}{g a t x dx ta ia:Addr}{As:List SA}{S:List St}{G:Gr}{X R:List (Addr×PO)}{Q:PV->PH->Prop}(w:G.Wf)(hG:pZ C8 g G)(hA:KR C8 a g t As S)(au:yK G S){fs:List (String×PV)}
include P w hG hA au
theorem Fm(hW:W.Ok)(f1:fs.lookup "automaton"=some (.ref a))(f2:fs.lookup "transitions"=some (.ref ta))(f3:fs.lookup "index"=some (.ref ia))(L:Led C8 σ ((x,.inst 490 dx)::(dx,.attrs 490 fs)::(ta,.list [])::(ia,.dict [] 0)::X) R)
  (q:∀tr es m B9,Bm G S (λ i _=>i<S.length) 327680 tr es->Led C8 B9 ((x,.inst 490 dx)::(dx,.attrs 490 fs)::(ta,.list (tr.map λ p=>.tup (Jd p)))::(ia,.dict es m)::X) R->Q .none B9):J9 W (n+2) (.ref 452) [.ref x] σ Q:=by
 refine P.fn aL 34 rfl (ρ:=[.ref x,.M7,.M7,.M7]) rfl ?_
 let LA:List (Nat×Nat)->List (PK×PV)->Nat->List (Addr×PO):=λ tr es m=>(x,.inst 490 dx)::(dx,.attrs 490 fs)::(ta,.list (tr.map λ p=>.tup (Jd p)))::(ia,.dict es m)::X
 let J:(Nat->Nat->Prop)->Nat->List (Addr×PO)->PH->Prop:=λ D b Y B9=>∃tr es m,Bm G S D b tr es∧Led C8 B9 (LA tr es m++Y) R
 let F:PV->PV->List PV:=λ y z=>[.ref x,.ref g,y,z]
 have Xl:=λ{B9} (E:Ext C8 B9)=>hA.ext E
 refine P3 (D8 (D8 rfl (L.self f1)) ((hA.ext L.ext).ob.fld _)) (f_2 (F:=F) (v:=.ref t) (λ pre _ _ B9=>J (λ i _=>i<pre.length) (10*pre.length) [] B9) rfl (D8 (D8 rfl (L.self f1)) ((hA.ext L.ext).ob.fld _)) ((hA.ext L.ext).it au.len) ⟨[],[],0,⟨λ _ h=>(nomatch h),λ i y d=>absurd d (Z8 i),rfl,D7 _,D7 _⟩,(C9 _).symm▸L⟩ ?_ ?_)
 ·intro pre i post y z B9 R' hl hQ;intros hQ tr es m hZ;delta hZ T L;intro hR
  have hZ:=P9 hl;delta hZ hp hi
  have TH:pre.length=i:=by rw[hp,D9]
  have hs:S.getD i aA∈S:=B5 (W5 aA hi)
  have is:=(hA.ext L.ext).at hi
  have kl:=au.Kn w hs
  rw[B0,TH]at hR
  rw[TH]at T
  refine uX (H7 (p1 (D8 rfl (is.ob.fld _))) (fN hW is.mv (ns:=(S.getD i aA).moves.map (·.1)) (by rw[rL,G2,G2];rfl) (H8 kl (by decide)) λ c hc=>?_))
  have L1:=L.alloc hc (.list ((dT ((S.getD i aA).moves.map (·.1))).map C0))
  rw[C6]at L1
  generalize B9.set c _=aK at L1
  have hm:∀{j:Nat},j∈dT ((S.getD i aA).moves.map (·.1))↔j∈(S.getD i aA).moves.map (·.1):=(N8 _).mem_iff
  have Hp:=A9 (X0 (N8 ((S.getD i aA).moves.map λ p=>p.1)).length_eq) kl
  generalize dT ((S.getD i aA).moves.map (·.1))=ks at L1 hm Hp
  have Nu:=L1.at_ (c,.list (ks.map C0)) (G9 _ (G4 _ (.head _)))
  refine⟨_,qS Nu Hp rfl,eC (λ p2 ρ S7=>∃z,ρ=F (.ref (As.getD i CP).a) z∧J (λ j y=>j<i∨(j=i∧y∈p2)) (10*i+p2.length) [(c,.list (ks.map C0))] S7) ⟨z,rfl,tr,es,m,T.skip (D7 _) (λ j z (d:j<i∨(j=i∧z∈[])) _ _=>d.resolve_right λ h=>nomatch h.2),L1⟩ ?_ ?_⟩
  ·intro p2 k iG _ W9 R2 fM hQ;intros hQ z hZ;obtain rfl:=hZ.1;refine ee3.e hZ.2 λ tr es m P4=>?_;delta P4 T L;try clear hZ;intro bR
   have hk:=P5 fM
   have is:=(hA.ext L.ext).at hi
   have st:∀{Y8:PH} {tr es m},Led C8 Y8 (LA tr es m++[(c,.list (ks.map C0))]) R->M9 aK (.ref c) Y8:=λ h=>(h.at_ (c,.list (ks.map C0)) (G9 _ (G4 _ (.head _)))).trans Nu.symm
   rw[B0]at bR
   have b2:10*i+(p2.length+1)<=327680:=by have:=hk.1;have:=au.len;lia
   refine iF (zL (PC (J1 rfl ((hG.ext L.ext).H2 "is_terminal" 129 (by simp)) rfl (jY (n:=n) P (hG.ext L.ext) ⟨_,rfl,λ ht=>?_,λ ht=>?_⟩))))
   ·have nt:¬k<G.tc:=K6 (WV ht)
    have Yz:(tr.map λ p=>PV.tup (Jd p)).length=tr.length:=A8 ..
    refine rF 3 (x:=C0 tr.length) L rfl (V8 (D8 rfl (L.self f2)) (len_list (L.get 2 rfl) Yz)) (D8 rfl (L.self f3)) (oU (I9 (D8 rfl (is.ob.fld _)) (p1 rfl))) (bE [i,k]) T.kt (H8 (A9 T.el (A9 T.len (A9 (cN _) b2))) (by decide)) λ m' Y8 _ L3=>?_
    refine N4 (aG 2 (x:=.tup (Jd (i,k))) L3 rfl (D8 rfl (L3.self f2)) (oU (I9 (D8 rfl (((hA.ext L3.ext).at hi).ob.fld _)) (p1 rfl))) (by rw[Yz];exact A9 (A9 T.len (A9 (cN _) b2)) (by decide)) λ bK _ L4=>?_)
    have L5:Led C8 bK (LA (tr++[(i,k)]) (putK (k2 i k) (C0 tr.length) es) m'++[(c,.list (ks.map C0))]) R:=by
     show Led C8 bK ((x,_)::(dx,_)::(ta,.list (List.map _ (tr++[(i,k)])))::_::_) R
     rw[C1];exact L4
    exact O7 (s_end (bR .next _ _ trivial (st L5) ⟨_,rfl,_,_,_,T.add hi (hm.mp hk.2) nt (λ j z d=>d.elim (λ d=>.inl (.inl d)) λ d=>(G8.mp d.2).elim (λ h=>.inl (.inr ⟨d.1,h⟩)) λ h=>.inr ⟨d.1,D5.mp h⟩),L5⟩))
   ·have nt:k<G.tc:=D0 (Qa ht)
    exact O7 (s_end (bR .next _ _ trivial (st L) ⟨_,rfl,tr,es,m,T.skip (cN _) (λ j z d _ nz=>d.imp id λ d=>⟨d.1,(G8.mp d.2).resolve_right λ h=>nz (D5.mp h▸nt)⟩),L⟩))
  ·intro _ W9 hQ;intros hQ z hZ;obtain rfl:=hZ.1;refine ee3.e hZ.2 λ tr es m P4=>?_;delta P4 T L;try clear hZ
   refine s_end (hR .next _ _ _ trivial (((L.ext _ _ hA.sl)).trans (‹Led C8 σ _ R›.ext _ _ hA.sl).symm) ⟨tr,es,m,T.skip (bV Hp _) λ j z d hz _=>?_,L.drop (L:=LA tr es m)|>λ h=>(C9 _).symm▸h⟩)
   exact(Y4.mp d).imp id λ e=>⟨e,hm.mpr (e▸hz)⟩
 ·intro y z B9 hQ;intros hQ tr es m hZ;delta hZ T L
  rw[D9]at T
  rw[C9]at L
  exact s_end (q tr es m B9 (T.skip (by have:=au.len;lia) λ _ _ d _ _=>d) L)
end
abbrev lo(ρ:List PV):Nat->PV:=λ i=>ρ.getD i .M7
section
variable{W:Wd}{n:Nat}{σ:PH}{ρ:List PV}{r b:V0}{K:Fl->List PV->PH->Prop}{e c:PE}{i:Nat}{v:PV}(F:(Nat->PV)->List PV)
theorem eY{α:Type}{l:List α}{f:α->PV}(I:List α->(Nat->PV)->PH->Prop)(HB:ρ=F (lo ρ))(h:pv σ ρ e=some v)(hv:mB σ v (l.map f))(h0:I [] (lo ρ) σ)
  (hs:∀pre x post u B9 (R:Fl->List PV->PH->Prop),l=pre++x::post->I pre u B9->(∀fl O5 B9,fl.go->M9 σ v B9->I (pre++[x]) (lo O5) B9->O5=F (lo O5)->R fl O5 B9)->S8 W tb n b ((F u).set i (f x)) B9 R)
  (hk:∀u σ,I l u σ->S8 W tb n r (F u) σ K):S8 W tb n (.cons (.R6 i e b) r) ρ σ K:=
 oC (λ pre ρ σ=>ρ=F (lo ρ)∧I pre (lo ρ) σ) h hv ⟨HB,h0⟩ (λ pre x post ρ B9 R e ⟨e',h⟩ k=>e'▸hs pre x post (lo ρ) B9 R e h λ fl O5 B9 g s h e=>k fl _ B9 g s ⟨e,h⟩) λ ρ σ ⟨e',h⟩=>e'▸hk (lo ρ) σ h
theorem Z0{α:Type}{l:List α}{f:α->PV}{B4:PH}(I:List α->(Nat->PV)->PH->Prop)(HB:ρ=F (lo ρ))(hv:mB B4 v (l.map f))(h0:I [] (lo ρ) B4)
  (hs:∀pre x post u B9 (R:Fl->List PV->PH->Prop),l=pre++x::post->I pre u B9->(∀fl O5 B9,fl.go->M9 B4 v B9->I (pre++[x]) (lo O5) B9->O5=F (lo O5)->R fl O5 B9)->S8 W tb n b ((F u).set i (f x)) B9 R)
  (hk:∀u σ,I l u σ->S8 W tb n r (F u) σ K):∃xs,mB B4 v xs∧jV (M9 B4 v) (λ x ρ σ R=>S8 W tb n b (ρ.set i x) σ R) xs ρ B4 (zP W n r K):=
 ⟨_,hv,eC (λ pre ρ σ=>ρ=F (lo ρ)∧I pre (lo ρ) σ) ⟨HB,h0⟩ (λ pre x post ρ B9 R e ⟨e',h⟩ k=>e'▸hs pre x post (lo ρ) B9 R e h λ fl O5 B9 g s h e=>k fl _ B9 g s ⟨e,h⟩) λ ρ σ ⟨e',h⟩=>e'▸hk (lo ρ) σ h⟩
theorem Z1(h:(wp W tb n e).v ρ σ λ v B4=>∃xs,mB B4 v xs∧jV (M9 B4 v) (λ x ρ σ R=>S8 W tb n b (ρ.set i x) σ R) xs ρ B4 (zP W n r K)):S8 W tb n (.cons (.R6 i e b) r) ρ σ K:=h
theorem XX{α:Type}{l:List α}{f:α->List PV}{is:List Nat}(I:List α->(Nat->PV)->PH->Prop)(HB:ρ=F (lo ρ))(h:pv σ ρ e=some v)(hv:mB σ v (l.map λ x=>.tup (f x)))(hl:∀x∈l,(f x).length=is.length)(h0:I [] (lo ρ) σ)
  (hs:∀pre x post u B9 (R:Fl->List PV->PH->Prop),l=pre++x::post->I pre u B9->(∀fl O5 B9,fl.go->M9 σ v B9->I (pre++[x]) (lo O5) B9->O5=F (lo O5)->R fl O5 B9)->S8 W tb n b (aN is (f x) (F u)) B9 R)
  (hk:∀u σ,I l u σ->S8 W tb n r (F u) σ K):S8 W tb n (.cons (.rS is e b) r) ρ σ K:=
 GF (λ pre ρ σ=>ρ=F (lo ρ)∧I pre (lo ρ) σ) h hv hl ⟨HB,h0⟩ (λ pre x post ρ B9 R e ⟨e',h⟩ k=>e'▸hs pre x post (lo ρ) B9 R e h λ fl O5 B9 g s h e=>k fl _ B9 g s ⟨e,h⟩) λ ρ σ ⟨e',h⟩=>e'▸hk (lo ρ) σ h
end
theorem rH{σ:PH}{ρ:List PV}{i:Nat}{v:PV}{z:Int}(e:v=.int z)(h:ρ[i]? =some v):pv σ ρ (.loc i)=some (.int z):=by
 subst e;exact WQ h rfl
theorem EN{l:List (Nat×Nat)}{y j:Nat}(nd:(l.map (·.1)).Nodup)(h:(y,j)∈l):(rL l).lookup (.int y)=some (C0 j):=by
 induction l with
 |nil=>cases h
 |cons p l ih=>
  show List.lookup (PK.int y) ((PK.int p.1,C0 p.2)::rL l)=_
  rw[I1]
  rcases F8.mp h with rfl|h
  ·rw[O2]
  ·have:p.1≠y:=λ e=>(N7.mp nd).1 (D2.mpr ⟨_,h,e.symm⟩)
   rw[O0.mpr λ e=>this (by injection e with e;exact(qZ e).symm)]
   exact ih (N7.mp nd).2 h
theorem Gr.IJ{G:Gr}{s:Nat}(h:s<G.tc)(z:G.tc<=10):s<=64:=A9 (M8 h) (A9 z (by decide))
section
variable{W:Wd}(P:dQ W){n:Nat}{σ C8:PH}{g a t:Addr}{As:List SA}{S:List St}{G:Gr}{Q:PV->PH->Prop}(hA:KR σ a g t As S)(au:yK G S)
include P
theorem ZN{i y:Nat}{A:SA}{s:St}(h:DM σ i A s)(q:Q (((rL s.moves).lookup (.int y)).getD (.int (-1))) σ):J9 W (n+1) (.ref 244) [.ref A.a,C0 y] σ Q:=
 P.fn oL 17 rfl (ρ:=[.ref A.a,C0 y]) rfl (W3 (J1 (D8 rfl (h.ob.fld _)) (gV h.mv _) (I9 rfl (p1 rfl)) (RN P.ok h.mv (EO ..) q)))
include hA
theorem Mm{i y:Nat}(hi:i<S.length)(q:Q (((rL (S.getD i aA).moves).lookup (.int y)).getD (.int (-1))) σ):J9 W (n+2) (.ref 342) [.ref a,C0 i,C0 y] σ Q:=
 P.fn kY 26 rfl (ρ:=[.ref a,C0 i,C0 y]) rfl (W3 (J1 (I8 (D8 rfl (hA.ob.fld _)) rfl (hA.sub hi)) ((hA.at hi).ob.H2 "goto" rfl rfl) (p1 rfl) (ZN P (hA.at hi) q)))
include au
theorem RV{i y j:Nat}(hi:i<S.length)(hj:(y,j)∈(S.getD i aA).moves)(q:Q (C0 j) σ):J9 W (n+2) (.ref 342) [.ref a,C0 i,C0 y] σ Q:=
 Mm P hA hi (by rw[EN (au.nd _ (B5 (W5 aA hi))) hj];exact q)
end
def WD(l:List (Addr×List Nat)):List (Addr×PO):=l.map λ p=>(p.1,.list (p.2.map C0))
abbrev Pl(l:List (Addr×List Nat)):List PV:=refs (l.map (·.1))
theorem Led.row{C8 σ:PH}{L M:List (Addr×PO)}{l:List (Addr×List Nat)}{c:Addr}{r:List Nat}(h:Led C8 σ (L++(c,.list (r.map C0))::M) (WD l)):Led C8 σ (L++M) (WD (l++[(c,r)])):=by
 refine h.perm ?_
 rw[WD,C1,C6,C6]
 refine jE L ?_
 show(M++(WD l++[(c,PO.list (r.map C0))])).Perm ((c,PO.list (r.map C0))::(M++WD l))
 rw[<-C6]
 exact List.perm_append_singleton ..
def j7(k b:Nat)(rows:List (Addr×List Nat)):Prop:=∀p∈rows,p.2.length<=b∧∀y∈p.2,y<k
section
variable{W:Wd}(P:dQ W){n:Nat}{σ C8:PH}{g a t x dx ta ia nu:Addr}{As:List SA}{S:List St}{G:Gr}{Q:PV->PH->Prop}(w:G.Wf)(hG:pZ C8 g G)(hA:KR C8 a g t As S)(au:yK G S){fs:List (String×PV)}
 {tr:List (Nat×Nat)}{es:List (PK×PV)}{m:Nat}{nb:List Bool}(T:Bm G S (λ i _=>i<S.length) 327680 tr es)(hn:C8 nu=some (.list (nb.map .bool)))(hz:nb.length=G.names.length)(ht:C8 ta=some (.list (tr.map λ p=>.tup (Jd p))))(hi:C8 ia=some (.dict es m))
 (f1:fs.lookup "automaton"=some (.ref a))(f2:fs.lookup "transitions"=some (.ref ta))(f3:fs.lookup "index"=some (.ref ia))(f4:fs.lookup "nullables"=some (.ref nu))
include P w hG hA au T hn hz ht hi f1 f2 f3 f4
theorem ZS{da ra:Addr}(f5:fs.lookup "direct"=some (.ref da))(f6:fs.lookup "reads"=some (.ref ra))(L:Led C8 σ ((x,.inst 490 dx)::(dx,.attrs 490 fs)::(da,.list [])::(ra,.list [])::[]) [])
  (q:∀(ds:List Nat) rows B9,ds.length=tr.length->(∀d∈ds,d<2^G.tc)->rows.length=tr.length->j7 tr.length 10 rows->Led C8 B9 ((x,.inst 490 dx)::(dx,.attrs 490 fs)::(da,.list (ds.map C0))::(ra,.list (Pl rows))::[]) (WD rows)->Q .none B9):J9 W (n+3) (.ref 459) [.ref x] σ Q:=by
 have zt:G.tc<=10:=A9 w.tc w.names
 refine P.fn dM 35 rfl (ρ:=[.ref x,.M7,.M7,.M7,.M7,.M7,.M7,.M7,.M7]) rfl ?_
 let LA:List Nat->List (Addr×List Nat)->List (Addr×PO):=λ ds rows=>(x,.inst 490 dx)::(dx,.attrs 490 fs)::(da,.list (ds.map C0))::(ra,.list (Pl rows))::[]
 let F:(Nat->PV)->List PV:=λ v=>[.ref x,.ref g,v 2,v 3,v 4,v 5,v 6,v 7,v 8]
 have L0:=L
 refine P3 (D8 (D8 rfl (L.self f1)) ((hA.ext L.ext).ob.fld _)) (XX F (l:=tr) (f:=Jd) (v:=.ref ta) (λ pre _ B9=>∃ds rows,ds.length=pre.length∧(∀d∈ds,d<2^G.tc)∧rows.length=pre.length∧j7 tr.length 10 rows∧Led C8 B9 (LA ds rows) (WD rows)) rfl
  (D8 rfl (L.self f2)) (V6 (L.ext _ _ ht) (GV T.len (by decide))) (λ _ _=>rfl) ⟨[],[],rfl,λ _ h=>(nomatch h),rfl,λ _ h=>(nomatch h),L⟩ ?_ ?_)
 ·intro pre p post u aK R1 hl hQ;intros hQ ds rows hZ;delta hZ h1 h2 h3 h4 L;intro hR
  have hp:=P5 hl
  have hZ:=T.mem p hp.2;delta hZ Lb y8 Wv
  refine A0 (D2.mp Wv) ?_;intro hZ;obtain⟨_,j⟩:=hZ;intro hZ;generalize hZ.1=hj;obtain rfl:=hZ.2;try clear hZ
  have hs:=B5 (W5 aA Lb)
  have jS:=(au.mv _ hs _ hj).2
  have La:=B5 (W5 aA jS)
  refine K1 (J1 (D8 rfl (L.self f1)) ((hA.ext L.ext).ob.H2 "goto" rfl rfl) rfl (RV (n:=n) P (hA.ext L.ext) au Lb hj (P3 rfl (K1 (K7 L rfl λ c6 W9 L2=>P3 (D8 (I8 (D8 (D8 rfl (L2.self f1)) ((hA.ext L2.ext).ob.fld _)) rfl ((hA.ext L2.ext).sub jS)) (((hA.ext L2.ext).at jS).ob.fld _)) ?_)))))
  have kl:=au.Kn w La
  refine Z1 (H7 (p1 rfl) (fN P.ok ((hA.ext L2.ext).at jS).mv (ns:=(S.getD j aA).moves.map (·.1)) (by rw[rL,G2,G2];rfl) (H8 kl (by decide)) λ c hc=>?_))
  have L3:=L2.alloc hc (.list ((dT ((S.getD j aA).moves.map (·.1))).map C0))
  generalize W9.set c _=Y8 at L3
  have hm:∀{k:Nat},k∈dT ((S.getD j aA).moves.map (·.1))->k∈(S.getD j aA).moves.map (·.1):=(N8 _).mem_iff.mp
  have Hp:=A9 (X0 (N8 ((S.getD j aA).moves.map λ p=>p.1)).length_eq) kl
  generalize dT ((S.getD j aA).moves.map (·.1))=ks at L3 hm Hp
  let M:List Nat->List (Addr×PO):=λ r=>(LA ds rows++[(c6,.list (r.map C0))])++[(c,.list (ks.map C0))]
  have mc:∀{B9 r},Led C8 B9 (M r) (WD rows)->B9 c=some (.list (ks.map C0)):=λ h=>h.at_ _ (G9 _ (G4 _ (.head _)))
  let F':(Nat->PV)->List PV:=λ v=>[.ref x,.ref g,C0 p.1,v 3,C0 j,v 5,.ref c6,v 7,v 8]
  refine Z0 F' (l:=ks) (f:=C0) (λ p2 v B9=>∃k r,v 5=C0 k∧k<2^G.tc∧r.length<=p2.length∧(∀y∈r,y<tr.length)∧Led C8 B9 (M r) (WD rows)) rfl (qS (mc (r:=[]) L3) Hp rfl) ⟨0,[],rfl,Z7 _,D7 _,λ _ h=>(nomatch h),L3⟩ ?_ ?_
  ·intro p2 k iG u bK R2 fM hQ;intros hQ z r hZ;delta hZ e5 Db hr hy L;intro bR
   have hk:=P5 fM
   have Nr:=hm hk.2
   have kN:k<G.names.length:=by refine A0 (D2.mp Nr) λ q hZ=>?_;generalize hZ.1=hq;clear bR hk Nr;obtain rfl:=hZ.2;try clear hZ;exact(au.mv _ La q hq).1
   have el:(p2++[k]).length=p2.length+1:=B0
   rw[el]at bR
   refine iF (PC (J1 rfl ((hG.ext L.ext).H2 "is_terminal" 129 (by simp)) rfl (jY (n:=n+1) P (hG.ext L.ext) ⟨_,rfl,λ ht=>?_,λ ht=>?_⟩)))
   ·have kt:=D0 ht
    refine K1 (O6 (P2 (rH e5 rfl) (rC rfl rfl (sX k (Gr.IJ kt zt) (uH (O7 (s_end (bR .next _ _ trivial ((mc L).trans (mc (r:=[]) L3).symm) ⟨_,r,rfl,Z4 Db (kH (by decide) kt),Z5 hr,hy,L⟩ (by show _=F' _;rfl)))))))))
   ·have nt:=K6 ht
    refine cZ (AC (I8 (D8 rfl (L.self f4)) rfl (W8 false (L.ext _ _ hn) (hz.symm▸kN)))) (λ _=>?_) λ _=>O7 (O7 (s_end (bR .next _ _ trivial ((mc L).trans (mc (r:=[]) L3).symm) ⟨z,r,e5,Db,Z5 hr,hy,L⟩ rfl)))
    refine A0 (T.ix j k jS Nr nt) λ y hZ=>?_;delta hZ Kx Tr
    refine N4 (aG 4 (x:=C0 y) L rfl rfl (I8 (D8 rfl (L.self f3)) (oU (I9 rfl (p1 rfl))) ((bB (L.ext _ _ hi) (bE [j,k])).trans Tr)) (GV hr (A9 (M8 hk.1) (A9 Hp (by decide)))) λ cH _ L5=>?_)
    have L6:Led C8 cH (M (r++[y])) (WD rows):=UQ (C:=λ z=>Led C8 cH ((LA ds rows++[(c6,.list z)])++[(c,.list (ks.map C0))]) (WD rows)) y L5
    exact O7 (O7 (s_end (bR .next _ _ trivial ((mc L6).trans (mc (r:=[]) L3).symm) ⟨z,r++[y],e5,Db,by rw[B0];exact O1 hr,T8 hy Kx,L6⟩ rfl)))
  ·intro u bK hQ;intros hQ z r hZ;delta hZ e5 Db hr hy L
   have j5:pre.length<=16777216:=A9 (M8 hp.1) (A9 T.len (by decide))
   have e1:(pre++[p]).length=pre.length+1:=B0
   rw[e1]at hR
   refine N4 (aG 2 (x:=C0 z) L rfl (D8 rfl (L.self f5)) (rH e5 rfl) (lz h1 j5) λ cH _ L5=>N4 (aG 3 (x:=.ref c6) L5 rfl (D8 rfl (L5.self f6)) rfl (by rw[Pl,refs,A8,A8,h3];exact j5) λ eK _ L6=>s_end (hR .next _ _ trivial ((L6.ext _ _ ht).trans (L0.ext _ _ ht).symm) ⟨ds++[z],rows++[(c6,r)],by rw[B0,h1];rfl,T8 h2 Db,by rw[B0,h3];rfl,T8 h4 ⟨A9 hr Hp,hy⟩,?_⟩ rfl)))
   have L7:=Led.row (L:=[(x,.inst 490 dx),(dx,.attrs 490 fs),(da,.list (ds.map C0++[C0 z])),(ra,.list (Pl rows++[.ref c6]))]) (M:=[(c,.list (ks.map C0))]) L6
   have L8:=Led.drop (L:=[(x,.inst 490 dx),(dx,.attrs 490 fs),(da,.list (ds.map C0++[C0 z])),(ra,.list (Pl rows++[.ref c6]))]) L7
   refine UQ (C:=λ y=>Led C8 eK (_::_::(da,.list y)::_) _) z ?_
   show Led C8 eK (_::_::_::(ra,.list (refs (List.map _ (rows++[(c6,r)]))))::_) _
   rw[refs,C1,C1]
   exact L8
 ·intro u aK hQ;intros hQ ds rows hZ;delta hZ h1 h2 h3 h4 L
  exact s_end (q ds rows aK h1 h2 h3 h4 L)
end
def RI(N:Nat)(c:Nat->List Nat):Prop:=∀i,(c i).Nodup∧∀y∈c i,y<N
theorem Io(s:Nat):binI .Sub (C0 (s+1)) (.int 1)=some (C0 s):=C7 (λ z=>some (PV.int z)) (Int.add_sub_cancel (s:Int) 1)
section
variable{W:Wd}(P:dQ W){n N:Nat}{C8 σ:PH}{L:List (Addr×PO)}{A:List Addr}{c:Nat->List Nat}{Q:PV->PH->Prop}
include P
theorem rU{a:Addr}{y:Nat}(hc:RI N c)(hN:N<=327680)(hy:y<N)(hA:a∈A)(L0:Led C8 σ L (lZ A λ i=>(c i).map C0))
  (q:∀c' B9,RI N c'->Led C8 B9 L (lZ A λ i=>(c' i).map C0)->Q .none B9):J9 W (n+1) (.ref 501) [.ref a,C0 y] σ Q:=by
 refine A0 (List.getElem?_of_mem hA) λ i hA=>?_
 refine P.fn AA 39 rfl (ρ:=[.ref a,C0 y]) rfl (cZ (oT rfl rfl (in_list (L0.HE (aC hA)))) (λ h=>N4 (LO (x:=C0 y) (i:=i) L0 (aC hA) rfl rfl (GV (Y2 (hc i).1 (hc i).2) (A9 hN (by decide))) λ B9 _ L'=>O7 (s_end (q (λ j=>if j=i then c i++[y]else c j) B9 (λ j=>?_) ?_)))) λ _=>O7 (s_end (q c σ hc L0)))
 ·show(if j=i then c i++[y]else c j).Nodup∧∀z∈(if j=i then c i++[y]else c j),z<N
  split
  ·exact⟨O8.mpr ⟨(hc i).1,.cons (λ _ h=>nomatch h) .nil,λ a ha b hb e=>K6 (WV h) (D5.mp hb▸e▸ha)⟩,T8 (hc i).2 hy⟩
  ·exact hc j
 ·rw[yT hA]at L'
  refine(gU λ j _=>?_)▸L'
  split
  ·exact(C1 (f:=C0) (l₂:=[y])).symm
  ·rfl
theorem KG{x nu:Addr}{nb:List Bool}{r:List Nat}(hx:fld σ (.ref x) "nullables"=some (.ref nu))(hn:σ nu=some (.list (nb.map .bool)))(hr:∀s∈r,s<nb.length)(q:∀e:Nat,Q (C0 e) σ):J9 W (n+1) (.ref 473) [.ref x,.tup (r.map C0)] σ Q:=by
 refine P.fn dW 37 rfl (ρ:=[.ref x,.tup (r.map C0),.M7]) rfl ?_
 let F:Nat->List PV:=λ s=>[.ref x,.tup (r.map C0),C0 s]
 refine P3 (x:=C0 r.length) (V8 rfl (pU (A8 ..))) (He F id (λ s B9=>B9=σ∧s<=r.length) r.length (λ s _=>s.casesOn false λ s=>nb.getD (r.getD s 0) false) rfl ⟨rfl,D7 _⟩ ?_ ?_ ?_)
 ·intro s _ hQ;clear P;clear q;obtain rfl:=hQ.1;delta hQ hQ hs
  cases s with
  |zero=>rfl
  |succ s=>exact jP (b:=true) (N3 rfl rfl (C7 some (H3 (Int.natCast_pos.mpr (eO s))))) (AC (I8 (D8 rfl hx) (I8 rfl (jJ rfl rfl (Io s)) (fP (V5 (W5 0 hs)))) (W8 false hn (hr _ (B5 (W5 0 hs))))))
 ·intro s _ R hQ;clear P hn hr hx nu;clear q;obtain rfl:=hQ.1;delta hQ hQ hs;intro ht hR
  cases s with
  |zero=>cases ht
  |succ s=>exact P3 (jJ rfl rfl (Io s)) (s_end (hR .next s _ trivial (K5 s) ⟨rfl,hU hs⟩))
 ·intro s _ hQ;clear P hn hr hx nu;obtain rfl:=hQ.1;delta hQ hQ hs;intro _
  refine W3 (H7 (I9 (jJ rfl rfl rfl) (p1 rfl)) (Ip ?_))
  clear W hs n;cases s with
  |zero=>exact q 0
  |succ s=>
   rw[Int.add_sub_cancel (s:Int) 1|>λ h=>(show((s+1:Nat):Int) - 1=s from h),G0 (Int.not_lt.mpr (G6 s))]
   exact q s
end
theorem Gr.It.OG{G:Gr}{m i d:Nat}{r:Rl}(h:G.It m i r d):G.cL m=r.right[d]? :=by have hZ:=h.I;delta hZ hZ e1 e2;unfold Gr.cL;rw[e1,e2]
theorem yK.red{G:Gr}{S:List St}(au:yK G S){s:St}(hs:s∈S){i:Nat}{r:Rl}(e:G.rules[i]? =some r)(hi:i≠0)(h:G.off i+r.right.length∈s.items):i∈s.iV:=by
 have it:G.It (G.off i+r.right.length) i r r.right.length:=⟨e,D7 _,rfl⟩
 rw[au.rd s hs]
 exact(N8 _).mem_iff.mpr (D2.mpr ⟨_,J5.mpr ⟨h,by rw[it.OG,it.I.1,jC (D7 _)];exact H3 hi⟩,it.I.1⟩)
theorem yK.Jv{G:Gr}{S:List St}(au:yK G S){s:St}(hs:s∈S):s.iV.Pairwise (·<·):=by
 rw[au.rd s hs]
 have e:∀m,m<G.aR.length->G.cL m=none->m=G.off (G.S6 m)+(G.PR m).right.length:=λ m h a=>by
  have it:=Gr.it h
  have:=eU.mp (it.OG.symm.trans a)
  exact it.at_.trans (C7 _ (Nat.le_antisymm it.dot this))
 have nd:(G.eG s.items).Nodup:=by
  refine X3.mpr (bJ (λ{a b} ha hb ne c=>ne ?_) (List.Pairwise.filter _ (show s.items.Nodup by rw[au.it s hs];exact(au.ks s hs).close.nd)))
  have hZ:=J5.mp ha;delta hZ a1 a2
  have hZ:=J5.mp hb;delta hZ b1 b2
  have la:=au.lt hs a a1
  have lb:=au.lt hs b b1
  have ra:=(Gr.it la).rule
  rw[c,(Gr.it lb).rule]at ra
  rw[e a la (eT.mp (F0.mp a2).1),e b lb (eT.mp (F0.mp b2).1),c,H1 ra]
 exact(List.pairwise_and_iff.mpr ⟨FY _,(N8 _).nodup_iff.mpr nd⟩).imp λ h=>Nat.lt_of_le_of_ne h.1 h.2
structure Gj(S:List St)(D:Nat->Nat->Prop)(b:Nat)(A:List Addr)(es:List (PK×PV)):Prop where
 ix:∀i r,D i r->r∈(S.getD i aA).iV->∃a∈A,es.lookup (k2 i r)=some (.ref a)
 vl:∀p∈es,∃a∈A,p.2=.ref a
 kt:es.all (λ p=>jR p.1)=true
 el:es.length<=b
theorem JA{k:PK}{x:PV}{p:PK×PV}:∀{es:List (PK×PV)},p∈putK k x es->p.2=x∨p∈es
 |[],h=>.inl (D5.mp h▸rfl)
 |q::l,h=>by
  rw[lR]at h
  split at h
  ·exact(F8.mp h).imp (C7 Prod.snd) (.tail _)
  ·exact(F8.mp h).elim (λ h=>.inr (h▸.head _)) λ h=>(JA h).imp id (.tail _)
theorem Gj.add{S:List St}{D D':Nat->Nat->Prop}{b:Nat}{A:List Addr}{es:List (PK×PV)}(h:Gj S D b A es){i r:Nat}(c:Addr)(hD:∀j z,D' j z->D j z∨(j=i∧z=r)):Gj S D' (b+1) (A++[c]) (putK (k2 i r) (.ref c) es):=by
 refine⟨λ j z d hz=>?_,λ p hp=>?_,tM h.kt rfl,A9 tL (O1 h.el)⟩
 ·rw[vB]
  split
  ·exact⟨c,G4 _ (.head _),rfl⟩
  ·rename_i ne
   refine A0 (h.ix j z ((hD j z d).resolve_right λ e=>ne (by rw[e.1,e.2])) hz) λ a hZ=>?_;delta hZ h1 h2
   exact⟨a,G9 _ h1,h2⟩
 ·rcases JA hp with e|hp
  ·exact⟨c,G4 _ (.head _),e⟩
  ·refine A0 (h.vl p hp) λ a hZ=>?_;delta hZ h1 h2
   exact⟨a,G9 _ h1,h2⟩
theorem Gj.skip{S:List St}{D D':Nat->Nat->Prop}{b b':Nat}{A:List Addr}{es:List (PK×PV)}(h:Gj S D b A es)(hb:b<=b')(hD:∀j z,D' j z->z∈(S.getD j aA).iV->D j z):Gj S D' b' A es:=
 ⟨λ j z d hz=>h.ix j z (hD j z d hz) hz,h.vl,h.kt,A9 h.el hb⟩
theorem oR{W:Wd}{n:Nat}{σ:PH}{ρ:List PV}{r b b':V0}{K:Fl->List PV->PH->Prop}{e:PE}(T:List PV->PH->Prop)(hk:∀O5 B9,T O5 B9->S8 W tb n r O5 B9 K)
  (h:(∀R:Fl->List PV->PH->Prop,(∀O5 B9,T O5 B9->R .next O5 B9)->(wp W tb n e).t ρ σ λ t B4=>(t=true->S8 W tb n b ρ B4 R)∧(t=false->S8 W tb n b' ρ B4 R))):S8 W tb n (.cons (.ite e b b') r) ρ σ K:=iF (h _ hk)
theorem Jh{W:Wd}{n:Nat}{σ:PH}{ρ:List PV}{B:Bool->PH->Prop}{a b:PE}{t:Bool}(h:pt σ ρ a=some t)(hT:(wp W tb n b).t ρ σ B)(hF:B false σ):(wp W tb n (.and a b)).t ρ σ B:=IK (uS h (by clear h;cases t;exact hF;exact hT))
theorem IV{G:Gr}{S:List St}(au:yK G S)(w:G.Wf){s:St}(hs:s∈S):s.iV.length<=15:=by
 rw[au.rd s hs,(N8 _).length_eq]
 unfold Gr.eG
 rw[A8]
 exact A9 (H4 ..) (by rw[au.it s hs];exact(au.ks s hs).close.len w)
section
variable{W:Wd}(P:dQ W){n:Nat}{σ C8:PH}{g a t x dx ta ia nu:Addr}{As:List SA}{S:List St}{G:Gr}{Q:PV->PH->Prop}(w:G.Wf)(hG:pZ C8 g G)(hA:KR C8 a g t As S)(au:yK G S){fs:List (String×PV)}
 {tr:List (Nat×Nat)}{es:List (PK×PV)}{m:Nat}{nb:List Bool}(T:Bm G S (λ i _=>i<S.length) 327680 tr es)(hn:C8 nu=some (.list (nb.map .bool)))(hz:nb.length=G.names.length)(ht:C8 ta=some (.list (tr.map λ p=>.tup (Jd p))))(hi:C8 ia=some (.dict es m))
 (f1:fs.lookup "automaton"=some (.ref a))(f2:fs.lookup "transitions"=some (.ref ta))(f3:fs.lookup "index"=some (.ref ia))(f4:fs.lookup "nullables"=some (.ref nu))
include P w hG hA au T hn hz ht hi f1 f2 f3 f4
theorem Fs{Tq Vi la:Addr}{A1 A2:List Addr}(f5:fs.lookup "includes"=some (.ref Tq))(f6:fs.lookup "turns"=some (.ref Vi))(f7:fs.lookup "lookback"=some (.ref la))(f8:fs.lookup "open_ends"=none)(h1:C8 Tq=some (.list (refs A1)))(h2:C8 Vi=some (.list (refs A2)))(z1:A1.length=tr.length)(z2:A2.length=tr.length)
  (L:Led C8 σ ((x,.inst 490 dx)::(dx,.attrs 490 fs)::(la,.dict [] 0)::[]) (lZ (A1++A2) λ _=>[]))
  (q:∀ls m A3 c B9,Gj S (λ i _=>i<S.length) 491520 A3 ls->RI tr.length c->Led C8 B9 ((x,.inst 490 dx)::(dx,.attrs 490 fs)::(la,.dict ls m)::[]) (lZ (A1++A2++A3) λ i=>(c i).map C0)->Q .none B9):J9 W (n+3) (.ref 466) [.ref x] σ Q:=by
 refine P.fn cE 36 rfl (ρ:=[.ref x,.M7,.M7,.M7,.M7,.M7,.M7,.M7,.M7,.M7,.M7,.M7,.M7]) rfl ?_
 let LA:List (PK×PV)->Nat->List (Addr×PO):=λ ls m=>(x,.inst 490 dx)::(dx,.attrs 490 fs)::(la,.dict ls m)::[]
 let F:(Nat->PV)->List PV:=λ v=>[.ref x,.ref g,v 2,v 3,v 4,v 5,v 6,v 7,v 8,v 9,v 10,v 11,v 12]
 let J:(Nat->Nat->Prop)->Nat->PH->Prop:=λ D b B9=>∃ls m A3,Gj S D b A3 ls∧Led C8 B9 (LA ls m) (lZ (A1++A2++A3) λ _=>[])
 have zt:tr.length<=327680:=T.len
 refine P3 (D8 (D8 rfl (L.self f1)) ((hA.ext L.ext).ob.fld _)) (eY F (v:=.ref t) (λ pre _ B9=>J (λ i _=>i<pre.length) (15*pre.length) B9) rfl (D8 (D8 rfl (L.self f1)) ((hA.ext L.ext).ob.fld _)) ((hA.ext L.ext).it au.len) ⟨[],0,[],⟨λ i r d=>absurd d (Z8 i),λ _ h=>(nomatch h),rfl,D7 _⟩,(C9 (A1++A2)).symm▸L⟩ ?_ ?_)
 ·intro pre i post u aK R1 hl hQ;intros hQ ls m1 A3 hZ;delta hZ K L1;intro hR
  have hZ:=P9 hl;delta hZ hp hi
  have TH:pre.length=i:=by rw[hp,D9]
  have hs:S.getD i aA∈S:=B5 (W5 aA hi)
  have rl:=IV au w hs
  have r6:∀{B9:PH} {L R:List (Addr×PO)} {y:Addr} {o:PO},Led C8 B9 L R->C8 y=some o->B9 y=aK y:=λ h e=>(h.ext _ _ e).trans (L1.ext _ _ e).symm
  rw[B0,TH]at hR
  rw[TH]at K
  let F1:(Nat->PV)->List PV:=λ v=>[.ref x,.ref g,.ref (As.getD i CP).a,v 3,v 4,v 5,v 6,v 7,v 8,v 9,v 10,v 11,v 12]
  have No:=hA.at hi
  refine eY F1 (l:=(S.getD i aA).iV) (f:=C0) (λ p2 _ B9=>J (λ j y=>j<i∨(j=i∧y∈p2)) (15*i+p2.length) B9) rfl (D8 rfl (((hA.ext L1.ext).at hi).ob.fld _)) (qS (((hA.ext L1.ext).at hi).rd) rl rfl) ⟨ls,m1,A3,K.skip (D7 _) (λ j z (d:j<i∨(j=i∧z∈[])) _=>d.resolve_right λ h=>nomatch h.2),L1⟩ ?_ ?_
  ·intro p2 k iG u2 W9 R2 fM hQ;intros hQ ls m2 A3 hZ;delta hZ K L2;intro bR
   rw[B0]at bR
   have b2:=(P5 fM).1
   have bz:ls.length<2^24:=H8 K.el (by have:=au.len;lia)
   refine zR (uP rfl λ c hc=>?_)
   have L3:=L2.wG hc (.list [])
   generalize W9.set c _=Y8 at L3 ⊢
   have Iq:Led C8 Y8 (LA ls m2) (lZ (A1++A2++(A3++[c])) λ _=>[]):=by
    rw[<-C6,<-BB];exact L3
   refine P2 (D8 rfl (Iq.self f7)) (P2 (oU (I9 (D8 rfl (((hA.ext Iq.ext).at hi).ob.fld _)) (p1 rfl))) (OV 2 Iq rfl (bE [i,k]) K.kt bz λ m3 bK _ L4=>s_end (bR .next _ _ trivial (r6 L4 No.rd) ⟨_,m3,A3++[c],K.add c (λ j z d=>d.elim (λ d=>.inl (.inl d)) λ d=>(G8.mp d.2).elim (λ h=>.inl (.inr ⟨d.1,h⟩)) λ h=>.inr ⟨d.1,D5.mp h⟩),L4⟩ rfl)))
  ·intro u2 W9 hQ;intros hQ ls m2 A3 hZ;delta hZ K L2
   exact s_end (hR .next _ _ trivial ((L2.ext _ _ hA.sl).trans (L.ext _ _ hA.sl).symm) ⟨ls,m2,A3,K.skip (bV rl _) (λ j z d hz=>(Y4.mp d).imp id λ e=>⟨e,e▸hz⟩),L2⟩ rfl)
 ·intro u aK hQ;intros hQ ls m1 A3 hZ;delta hZ K L1
  rw[D9]at K
  let A:=A1++A2++A3
  let N:List (Addr×PO)->PH->Prop:=λ X B9=>∃c,RI tr.length c∧Led C8 B9 (LA ls m1++X) (lZ A λ i=>(c i).map C0)
  refine Z1 (H7 (p1 (V8 (D8 rfl (L1.self f2)) (len_list (L1.ext _ _ ht) (A8 ..)))) (aP (Z0 F (λ _ _ B9=>N [] B9) rfl (fH (A9 zt (by decide))) ⟨λ _=>[],λ i=>⟨.nil,λ _ h=>(nomatch h)⟩,L1⟩ ?_ ?_)))
  ·intro pre j post u2 W9 R2 hl hQ;intros hQ c hZ;delta hZ hc L2;intro hR
   have hj:=(P9 hl).2
   have hp:=B5 (W5 (0,0) hj)
   refine WB (I8 (D8 rfl (L2.self f2)) rfl (W8 (0,0) (L2.ext _ _ ht) hj)) rfl ?_
   generalize tr.getD j (0,0)=p at hp
   have hZ:=T.mem p hp;delta hZ Lb y8 Wv
   refine A0 (D2.mp Wv) ?_;intro hZ;obtain⟨y,k⟩:=hZ;intro hZ;delta hZ hk e1
   obtain⟨hy,_,mm,Ty,b7⟩:=au.mv _ (B5 (W5 aA Lb)) _ hk
   have e1:y=p.2:=e1
   clear hk e1;subst e1
   have cl:=au.cl _ (B5 (W5 aA Lb)) mm Ty _ b7
   have u0:p.2≠G.tc:=λ e=>w.na _ (B5 (Gr.it (au.lt (B5 (W5 aA Lb)) mm Ty)).rule) (e▸B5 b7)
   refine Z1 (J1 rfl ((hG.ext L2.ext).H2 "rules_of" 150 (by simp)) (p1 rfl) (BY (n:=n+1) P (hG.ext L2.ext) hy (A9 w.rules (by decide)) λ c3 Y8 E3 CR h3=>?_))
   have L3:=L2.adopt E3 CR h3
   let X:List (Addr×PO):=[(c3,.list ((G.of p.2).map C0))]
   have Td:∀{B9},N X B9->B9 c3=some (.list ((G.of p.2).map C0)):=λ⟨_,_,L⟩=>L.at_ _ (G9 _ (G4 _ (.head _)))
   let F3:(Nat->PV)->List PV:=λ v=>[.ref x,.ref g,v 2,v 3,C0 j,C0 p.1,C0 p.2,v 7,v 8,v 9,v 10,v 11,v 12]
   refine Z0 F3 (l:=G.of p.2) (f:=C0) (λ _ _ B9=>N X B9) rfl (qS (Td ⟨c,hc,L3⟩) (AV w _) rfl) ⟨c,hc,L3⟩ ?_ λ u4 bK ⟨c,hc,L4⟩=>s_end (hR .next _ _ trivial trivial ⟨c,hc,L4.drop (L:=LA ls m1++[])⟩ rfl)
   intro t7 r Zj u4 bK R4 ak hQ;intros hQ c hZ;delta hZ hc L4;intro bq
   have hr:=(P5 ak).2
   have TJ:=cl r hr
   have hZ:=vM hr;refine A0 hZ.2 λ rl Q0=>?_;delta Q0 er el;try clear hZ
   have r0:r≠0:=λ e=>by
    have:=w.r0
    rw[<-e,er]at this
    exact u0 (el▸H1 this)
   have Zz:=B5 er
   have sy:=w.sym rl Zz
   have w3:=w.len rl Zz
   refine ee3.e ((hG.ext L4.ext).rule er) λ ru ra rb hZ=>?_;delta hZ r1 r2 r3 r4
   refine P3 (D8 (I8 (D8 rfl r1) rfl (I0 r2 r3)) r4.right) (K1 (J1 rfl ((L4.obj 0 1 rfl rfl).H2 "open_ends" f8 rfl) (p1 rfl) (KG (n:=n+1) P (L4.self f4) (L4.ext _ _ hn) (λ s hs=>hz.symm▸sy s hs) λ e=>P3 rfl (Z1 (H7 (p1 (V8 rfl (pU (A8 ..)))) (aP ?_))))))
   let F5:(Nat->PV)->List PV:=λ v=>[.ref x,.ref g,v 2,C0 r,C0 j,C0 p.1,C0 p.2,.tup (rl.right.map C0),C0 e,v 9,v 10,v 11,v 12]
   refine Z0 F5 (λ pre v B9=>∃k,v 9=C0 k∧k<S.length∧G.off r+pre.length∈(S.getD k aA).items∧N X B9) rfl (fH (A9 w3 (by decide))) ⟨p.1,rfl,Lb,TJ,c,hc,L4⟩ ?_ ?_
   ·intro t0 s Zi u5 cH R5 aj hQ;intros hQ k hZ;obtain⟨e9,hk,hit,c,hc,L5⟩:=hZ;intro e8
    have hZ:=P9 aj;delta hZ a8 hs
    rw[a8,D9]at hit
    rw[B0,a8,D9]at e8
    have Tu:=W5 0 hs
    have y5:=sy _ (B5 Tu)
    generalize rl.right.getD s 0=y at Tu y5
    have Nr:=B5 (W5 aA hk)
    have bk:G.cL (G.off r+s)=some y:=(Gr.It.OG ⟨er,M8 hs,rfl⟩).trans Tu
    refine ee2.e (au.go _ Nr _ hit _ bk) λ k' t' hZ=>?_;delta hZ Wz Wy ab
    have TI:=(au.mv _ Nr _ Wz).2
    let F6:PV->List PV:=λ v=>[.ref x,.ref g,u5 2,C0 r,C0 j,C0 p.1,C0 p.2,.tup (rl.right.map C0),C0 e,u5 9,C0 s,C0 y,v]
    refine P3 (I8 rfl rfl (fP (V5 Tu))) (oR (λ O5 B9=>∃v,O5=F6 v∧N X B9) ?_ λ R hR=>Jh (N3 rfl rfl rfl) (zL (PC (J1 rfl ((hG.ext L5.ext).H2 "is_terminal" 129 (by simp)) rfl (jY (n:=n+1) P (hG.ext L5.ext) ⟨_,rfl,λ ht=>?_,λ _=>s_end (hR _ _ ⟨_,rfl,c,hc,L5⟩)⟩)))) ⟨(λ h=>nomatch h),λ _=>s_end (hR _ _ ⟨_,rfl,c,hc,L5⟩)⟩)
    ·intro _ eK hQ;intros hQ v hZ;obtain rfl:=hZ.1;refine A0 hZ.2 λ c P4=>?_;delta P4 hc L6;try clear hZ
     refine K1 (J1 (D8 rfl (L6.self f1)) ((hA.ext L6.ext).ob.H2 "goto" rfl rfl) (I9 (rH e9 rfl) (p1 rfl)) (RV (n:=n) P (hA.ext L6.ext) au hk Wz (s_end (e8 .next _ _ trivial trivial ⟨k',rfl,TI,?_,c,hc,L6⟩ rfl))))
     rw[C2,Wy]
     exact ab
    ·refine A0 (T.ix k y hk (J2 Wz) (K6 (WV ht))) λ v hZ=>?_;delta hZ hv he
     have i1:=W5 (l:=A1) 0 (z1.symm▸hv)
     have i2:=W5 (l:=A2) 0 (z2.symm▸hv)
     refine P3 (x:=C0 v) (I8 (D8 rfl (L5.self f3)) (oU (I9 (rH e9 rfl) (p1 rfl))) ((bB (L5.ext _ _ hi) (bE [k,y])).trans he)) (N4 (H7 (I9 (I8 (D8 rfl (L5.self f5)) rfl (I0 (L5.ext _ _ h1) (V5 i1))) (p1 rfl))
      (rU (n:=n+1) P hc zt hj (G9 _ (G9 _ (B5 i1))) L5 λ c eW hc L7=>?_)))
     exact cZ (N3 rfl rfl rfl) (λ _=>N4 (H7 (I9 (I8 (D8 rfl (L7.self f6)) rfl (I0 (L7.ext _ _ h2) (V5 i2))) (p1 rfl)) (rU (n:=n+1) P hc zt hj (G9 _ (G4 _ (B5 i2))) L7 λ c qB hc L8=>O7 (s_end (hR _ _ ⟨_,rfl,c,hc,L8⟩))))) λ _=>O7 (s_end (hR _ _ ⟨_,rfl,c,hc,L7⟩))
   ·intro u5 cH hQ;intros hQ k hZ;obtain⟨e9,hk,hit,c,hc,L5⟩:=hZ
    rw[D9]at hit
    refine A0 (K.ix k r hk (au.red (B5 (W5 aA hk)) er r0 hit)) λ ad hZ=>?_;delta hZ ha hl
    exact N4 (H7 (I9 (I8 (D8 rfl (L5.self f7)) (oU (I9 (rH e9 rfl) (p1 rfl))) ((bB (L5.get 2 rfl) (bE [k,r])).trans hl)) (p1 rfl)) (rU (n:=n+1) P hc zt hj (G4 _ ha) L5 λ c eK hc L6=>s_end (bq .next _ _ trivial ((Td ⟨c,hc,L6⟩).trans h3.symm) ⟨c,hc,L6⟩ rfl)))
  ·intro u2 W9 hQ;intros hQ c hZ;delta hZ hc L2
   exact s_end (q ls m1 A3 c W9 (K.skip (by have:=au.len;lia) λ _ _ d _=>d) hc L2)
end
theorem QI(l:List Int):keyOf (.tup (l.map .int))=some (.bM l):=by show(intsOf _).map PK.bM=_;rw[rP];rfl
theorem Cv{k:PK}(h:jR k=true):∃l,k=.bM l:=by
 cases k with
 |bM l=>exact⟨l,rfl⟩
 |int=>cases h
 |str=>cases h
theorem XL:∀{es:List (PK×PV)},es.all (λ p=>jR p.1)=true->es.all (λ p=>!jT p.1)=true
 |[],_=>rfl
 |(.bM _,_)::es,h=>F0.mpr ⟨rfl,XL (F0.mp h).2⟩
theorem MY{k:PK}{v:PV}:∀{es:List (PK×PV)},es.lookup k=some v->(k,v)∈es
 |p::es,h=>by
  rw[I1]at h
  split at h
  ·rename_i e;cases h;rw[eq_of_beq e];exact .head _
  ·exact .tail _ (MY h)
theorem NB{p:PK×PV}:∀{es:List (PK×PV)},p∈es->∃v,es.lookup p.1=some v
 |q::es,h=>by
  rw[I1]
  split
  ·exact⟨_,rfl⟩
  ·rename_i e
   exact NB ((F8.mp h).resolve_left λ h=>by rw[h,O2]at e;cases e)
structure MI(G:Gr)(S:List St)(ms:List (PK×PV)):Prop where
 ix:∀i r,i<S.length->r∈(S.getD i aA).iV->∃k,k<2^G.tc∧ms.lookup (k2 i r)=some (C0 k)
 kt:ms.all (λ p=>jR p.1)=true
def UR(σ:PH)(a:Addr)(N:Nat)(rw:Nat->Addr×List Nat):Prop:=σ a=some (.list ((List.range N).map λ i=>.ref (rw i).1))∧∀i,i<N->σ (rw i).1=some (.list ((rw i).2.map C0))∧∀y∈(rw i).2,y<N
section
variable{W:Wd}(P:dQ W){n:Nat}{σ:PH}{x la fa:Addr}{S:List St}{G:Gr}{Q:PV->PH->Prop}{ls:List (PK×PV)}{m N b:Nat}{A:List Addr}{fm:List Nat}
include P
theorem ZR(f1:fld σ (.ref x) "lookback"=some (.ref la))(f2:fld σ (.ref x) "follow_masks"=some (.ref fa))(hl:σ la=some (.dict ls m))(hf:σ fa=some (.list (fm.map C0)))(K:Gj S (λ i _=>i<S.length) b A ls)(hb:b<=491520)(hz:fm.length=N)(hN:N<=327680)(hm:∀d∈fm,d<2^G.tc)
  (hr:∀a∈A,∃l:List Nat,σ a=some (.list (l.map C0))∧l.Nodup∧∀y∈l,y<N)(q:∀c B9 ms m',Ext σ B9->σ c=none->B9 c=some (.dict ms m')->MI G S ms->Q (.ref c) B9):J9 W (n+1) (.ref 480) [.ref x] σ Q:=by
 refine P.fn cP 38 rfl (ρ:=[.ref x,.M7,.M7,.M7,.M7]) rfl (K1 (dR (Led.start σ) λ c aK L1=>?_))
 let F:(Nat->PV)->List PV:=λ v=>[.ref x,.ref c,v 2,v 3,v 4]
 have lz:ls.length<=2^24:=A9 K.el (A9 hb (by decide))
 refine eY F (l:=ls) (f:=λ p=>p.1.pv) (v:=.ref la) (λ pre _ B9=>∃ms m',Led σ B9 [(c,.dict ms m')] []∧ms.all (λ p=>jR p.1)=true∧ms.length<=pre.length∧∀p∈pre,∃k,k<2^G.tc∧ms.lookup p.1=some (C0 k)) rfl (D8 rfl (U8 L1.ext f1)) (yW (L1.ext _ _ hl) (XL K.kt) rfl lz) ⟨[],0,L1,rfl,D7 _,λ _ h=>nomatch h⟩ ?_ ?_
 ·intro pre p post u W9 R fM hQ;intros hQ ms m' hZ;delta hZ L k1 k2 k3;intro hR
  have hZ:=P5 fM;delta hZ Hw hp
  clear P hb fM post;obtain⟨pk,pw⟩:=p
  refine A0 (Cv (G3.mp K.kt _ hp)) λ tl hZ=>?_;obtain rfl:=hZ
  refine A0 (NB hp) λ v hv=>?_
  refine A0 (K.vl _ (MY hv)) λ a hZ=>?_;generalize hZ.1=ha;obtain rfl:=hZ.2;try clear hZ
  refine A0 (hr a ha) λ l hZ=>?_;delta hZ h1 h2 h3
  let F1:(Nat->PV)->List PV:=λ v=>[.ref x,.ref c,.tup (tl.map .int),v 3,v 4]
  refine P3 rfl (eY F1 (l:=l) (f:=C0) (v:=.ref a) (λ _ v B9=>B9=W9∧∃k,v 3=C0 k∧k<2^G.tc) rfl (I8 (D8 rfl (U8 L.ext f1)) rfl ((bB (L.ext _ _ hl) (QI tl)).trans hv)) (V6 (L.ext _ _ h1) (GV (Y2 h2 h3) (A9 hN (by decide)))) ⟨rfl,0,rfl,Z7 _⟩ ?_ ?_)
  ·intro Ps y iG u2 _ R2 am hQ;obtain rfl:=hQ.1;refine A0 hQ.2 λ k Q0=>?_;delta Q0 e3 hk;try clear hQ;intro bR
   have hy:=hz.symm▸h3 y (P5 am).2
   exact K1 (O6 (P2 (rH e3 rfl) (P2 (I8 (D8 rfl (U8 L.ext f2)) rfl (W8 0 (L.ext _ _ hf) hy)) (uH (s_end (bR .next _ _ trivial rfl ⟨rfl,_,rfl,Z4 hk (hm _ (B5 (W5 0 hy)))⟩ rfl))))))
  ·intro u2 _ hQ;obtain rfl:=hQ.1;refine A0 hQ.2 λ k Q0=>?_;delta Q0 e3 hk;try clear hQ
   refine rF 0 (x:=C0 k) L rfl (rH e3 rfl) rfl rfl (QI tl) k1 (H8 k2 (D1 Hw lz)) λ m3 Y8 _ L3=>s_end (hR .next _ _ trivial ((L3.ext _ _ hl).trans (L1.ext _ _ hl).symm) ⟨_,m3,L3,tM k1 rfl,A9 tL (by rw[B0];exact O1 k2),λ p' y9=>?_⟩ rfl)
   rw[vB]
   split
   ·exact⟨k,hk,rfl⟩
   ·rename_i ne
    exact k3 p' ((G8.mp y9).resolve_right λ h=>ne (by rw[D5.mp h]))
 ·intro u W9 hQ;intros hQ ms m' hZ;delta hZ L k1 k2 k3
  exact X7 rfl (q c W9 ms m' L.ext (L.new _ (.head _)) (L.get 0 rfl) ⟨λ i r hi hr=>let⟨a,_,h⟩:=K.ix i r hi hr;k3 _ (MY h),k1⟩)
end
structure Fr where
 a:Addr
 x:Nat
 h:Nat
 k:Nat
abbrev Uh(l:List Fr):List (Addr×PO):=l.map λ f=>(f.a,.list [C0 f.x,C0 f.h,C0 f.k])
abbrev Do(l:List Fr):List PV:=l.map λ f=>.ref f.a
theorem ZE{l:List Nat}{y v:Nat}(hv:v≠0)(h:y<l.length)(e:l.getD y 0=0):(l.set y v).count 0+1=l.count 0:=by
 induction l generalizing y with
 |nil=>exact absurd h (Z8 y)
 |cons b r ih=>
  cases y with
  |zero=>have e:b=0:=e;clear e h;subst e;rw[List.set_cons_zero,List.count_cons_of_ne hv,List.count_cons_self]
  |succ y=>rw[gC,List.count_cons,List.count_cons,<-ih (Nat.lt_of_succ_lt_succ h) e,Nat.add_right_comm]
theorem ZD{l:List Nat}{y v:Nat}(hv:v≠0):(l.set y v).count 0<=l.count 0:=by
 induction l generalizing y with
 |nil=>exact D7 _
 |cons b r ih=>
  cases y with
  |zero=>rw[List.set_cons_zero,List.count_cons_of_ne hv];exact List.count_le_count_cons ..
  |succ y=>rw[gC,List.count_cons,List.count_cons];exact Nat.add_le_add_right ih _
structure Dh(N B:Nat)(res lN:List Nat):Prop where
 rl:res.length=N
 rb:∀d∈res,d<B
 hl:lN.length=N
structure Df(N:Nat)(wd:Nat->Nat)(z:Nat)(U2:List Nat)(fr:List Fr):Prop where
 pl:∀x∈U2,x<N
 z1:U2.length+z<=N
 z2:fr.length+z<=N
 fx:∀f∈fr,f.x<N∧1<=f.h∧U2[f.h - 1]? =some f.x∧f.k<=wd f.x
 inc:(fr.map (·.h)).Pairwise (·<·)
theorem Df.BJ{N:Nat}{wd:Nat->Nat}{z:Nat}{U2:List Nat}{fr:List Fr}(D:Df N wd z U2 fr){f:Fr}(hf:f∈fr):f.h<=U2.length:=by
 have hZ:=D.fx f hf;delta hZ hZ h1 h2
 have:=(D3.mp h2).1
 exact(Nat.sub_add_cancel h1)▸this
theorem Df.push{N:Nat}{wd:Nat->Nat}{z:Nat}{U2:List Nat}{fr:List Fr}(D:Df N wd (z+1) U2 fr){y:Nat}(hy:y<N)(a:Addr):Df N wd z (U2++[y]) (fr++[⟨a,y,U2.length+1,0⟩]):=by
 refine⟨T8 D.pl hy,by rw[B0];exact Nat.add_right_comm .. ▸D.z1,by rw[B0];exact Nat.add_right_comm .. ▸D.z2,T8 (λ f hf=>?_) ⟨hy,O1 (K3 _),by show(U2++[y])[U2.length]? =_;rw[N2 (D7 _),hJ];rfl,K3 _⟩,?_⟩
 ·have hZ:=D.fx f hf;delta hZ h1 h2 h3 h4
  exact⟨h1,h2,by rw[I4 (D3.mp h3).1];exact h3,h4⟩
 ·rw[C1]
  refine List.pairwise_append.mpr ⟨D.inc,List.pairwise_singleton ..,λ a ha b hb=>?_⟩
  refine A0 (D2.mp ha) λ f hZ=>?_;generalize hZ.1=hf;clear ha;obtain rfl:=hZ.2;try clear hZ
  rewrite[D5.mp hb]
  exact hM (D.BJ hf)
theorem Df.step{N:Nat}{wd:Nat->Nat}{z z':Nat}{U2:List Nat}{fs:List Fr}{f:Fr}(D:Df N wd z U2 (fs++[f]))(hk:f.k+1<=wd f.x)(hz:z'<=z):Df N wd z' U2 (fs++[⟨f.a,f.x,f.h,f.k+1⟩]):=by
 refine⟨D.pl,A9 (bV hz _) D.z1,A9 (bV hz _) (by have:=D.z2;rwa [B0]at this ⊢),T8 (λ g hg=>D.fx g (G9 _ hg)) ?_,?_⟩
 ·have hZ:=D.fx f (G4 _ (.head _));delta hZ h1 h2 h3
  exact⟨h1,h2,h3,hk⟩
 ·have:=D.inc
  rw[C1]at this ⊢
  exact this
theorem Df.pop{N:Nat}{wd:Nat->Nat}{z z':Nat}{U2 gO:List Nat}{fs:List Fr}{f:Fr}(D:Df N wd z U2 (fs++[f]))(p:gO<+:U2)(hp:f.h<=gO.length+1)(hz:z'<=z):Df N wd z' gO fs:=by
 have i:=D.inc
 rw[C1]at i
 refine⟨λ x hx=>D.pl x (p.subset hx),A9 (S0 p.length_le hz) D.z1,A9 (S0 (by rw[B0];exact J6 ..) hz) D.z2,λ g hg=>?_,(List.pairwise_append.mp i).1⟩
 have hZ:=D.fx g (G9 _ hg);delta hZ h1 h2 h3 h4
 have lt:g.h<f.h:=(List.pairwise_append.mp i).2.2 _ (J2 hg) _ (.head _)
 have:g.h - 1<gO.length:=D1 (Nat.sub_lt h2 (by decide)) (Nat.le_of_lt_succ (D1 lt hp))
 exact⟨h1,h2,by intros p t hZ;clear D;obtain rfl:=hZ;rw[I4 this]at h3;exact h3,h4⟩
def Ba(wd:Nat->Nat)(fr:List Fr):Nat:=(fr.map λ f=>wd f.x+1 - f.k).sum
theorem sN(wd:Nat->Nat)(fs:List Fr)(f:Fr):Ba wd (fs++[f])=Ba wd fs+(wd f.x+1 - f.k):=by unfold Ba;rw[C1,List.sum_append];rfl
theorem DW{σ:PH}{a:Addr}{xs:List PV}{x:PV}(h:σ a=some (.list (xs++[x]))):gD σ (.ref a) (.int (-1))=some x:=by
 show cF _ _ (σ a)=_
 rw[h]
 show xP (xs++[x]) (-1)=_
 unfold xP
 have e:(((xs++[x]).length:Nat):Int)+ -1=xs.length:=by rw[B0];exact Int.add_neg_cancel_right (xs.length:Int) 1
 rw[G0 (by decide),e,F7 (G6 _),aZ,N2 (D7 _),hJ]
 rfl
theorem Led.pull{C8 σ:PH}{L R:List (Addr×PO)}{p:Addr×PO}(h:Led C8 σ L (R++[p])):Led C8 σ (L++[p]) R:=h.perm (by rw[C6];exact jE L List.perm_append_comm)
theorem Led.give{C8 σ:PH}{L R:List (Addr×PO)}{p:Addr×PO}(h:Led C8 σ (L++[p]) R):Led C8 σ L (R++[p]):=h.perm (by rw[C6];exact jE L List.perm_append_comm)
theorem Ie{W:Wd}{n:Nat}{σ:PH}{ρ:List PV}{r b:V0}{K:Fl->List PV->PH->Prop}{c:PE}{β:Type}(F:(Nat->PV)->List PV)(m:β->Nat)(I:β->(Nat->PV)->PH->Prop)(t:β->Bool)(y:β)(HB:ρ=F (lo ρ))(h0:I y (lo ρ) σ)(ht:∀y u σ,I y u σ->pt σ (F u) c=some (t y))
  (hs:∀y u σ (R:Fl->List PV->PH->Prop),I y u σ->t y=true->(∀fl O5 B9 y',fl.go->m y'<m y->I y' (lo O5) B9->O5=F (lo O5)->R fl O5 B9)->S8 W tb n b (F u) σ R)(hk:∀y u σ,I y u σ->t y=false->S8 W tb n r (F u) σ K):S8 W tb n (.cons (.IA c b) r) ρ σ K:=
 PL (I:=λ k ρ σ=>ρ=F (lo ρ)∧∃y,k=m y∧I y (lo ρ) σ) (m y) ⟨HB,y,rfl,h0⟩ λ k ρ σ R Ix hR=>by
  generalize Ix.1=e1;refine A0 Ix.2 λ y Q0=>?_;delta Q0 e2 i;try clear Ix
  subst e2
  rw[e1]
  refine uS (ht y _ σ i) ?_
  cases e:t y
  ·exact hk y _ σ i e
  ·exact hs y _ σ R i e λ fl O5 B9 y' g l i' e'=>hR fl _ B9 _ g l ⟨e',y',rfl,i'⟩
abbrev dL(c3 ct c4 c6:Addr)(res lN U2:List Nat)(X:List (Addr×PO)):List (Addr×PO):=(c3,.list (res.map C0))::(ct,.list [.int 0])::(c4,.list (lN.map C0))::(c6,.list (U2.map C0))::X
theorem ZB{C8 σ:PH}{c3 ct c4 c6:Addr}{res lN U2:List Nat}{X R:List (Addr×PO)}{i v:Nat}(L:Led C8 σ ((c3,.list ((res.map C0).set i (C0 v)))::(ct,.list [.int 0])::(c4,.list (lN.map C0))::(c6,.list (U2.map C0))::X) R):Led C8 σ (dL c3 ct c4 c6 (res.set i v) lN U2 X) R:=by unfold dL;rw[hY];exact L
theorem ZC{C8 σ:PH}{c3 ct c4 c6:Addr}{res lN U2:List Nat}{X R:List (Addr×PO)}{i v:Nat}(L:Led C8 σ ((c3,.list (res.map C0))::(ct,.list [.int 0])::(c4,.list ((lN.map C0).set i (C0 v)))::(c6,.list (U2.map C0))::X) R):Led C8 σ (dL c3 ct c4 c6 res (lN.set i v) U2 X) R:=by unfold dL;rw[hY];exact L
theorem WK{W:Wd}{n:Nat}{C8 σ:PH}{ρ:List PV}{r:V0}{K:Fl->List PV->PH->Prop}{c3 ct c4 c6:Addr}{res lN U2:List Nat}{X R:List (Addr×PO)}{i y:Nat}(h4:∀σ,pv σ ρ (.loc 4)=some (.ref c4))(h6:∀σ,pv σ ρ (.loc 6)=some (.ref c6))(hi:∀σ,pv σ ρ (.loc i)=some (C0 y))
  (L:Led C8 σ (dL c3 ct c4 c6 res lN U2 X) R)(hz:U2.length<=327680)(hy:y<lN.length)(k:∀B9,Led C8 B9 (dL c3 ct c4 c6 res (lN.set y (U2.length+1)) (U2++[y]) X) R->S8 W tb n r ρ B9 K):
  S8 W tb n (.cons (.expr (.H2 (.loc 6) "append" (.cons (.loc i) .nil))) (.cons (.aM (.loc 4) (.loc i) (.call 1 (.builtin "len") (.cons (.loc 6) .nil))) r)) ρ σ K:=
 N4 (aG 3 (x:=C0 y) L rfl (h6 _) (hi _) (GV hz (by decide)) λ eK _ L6=>mV 2 L6 rfl (x:=C0 (U2.length+1)) (V8 (h6 _) (len_list (L6.get 3 rfl) (by rw[B0,A8];rfl))) (h4 _) (hi _) (Cp rfl hy) λ eW _ L7=>k _
  (UQ (C:=λ z=>Led C8 eW (_::_::(c4,.list (List.map C0 (lN.set y (U2.length+1))))::(c6,.list z)::X) R) y (VU (C:=λ z=>Led C8 eW (_::_::(c4,.list z)::_) R) y (U2.length+1) L7)))
theorem PG{α:Type}{l:List α}(h:l≠[]):∃k x,l=k++[x]:=⟨_,_,(List.dropLast_concat_getLast h).symm⟩
section
variable{W:Wd}(P:dQ W){n N T b:Nat}{σ:PH}{rl ml:Addr}{rw:Nat->Addr×List Nat}{ms:List Nat}{Q:PV->PH->Prop}
include P
theorem FJ(hN:N<=327680)(hr:UR σ rl N rw)(hb:∀i,i<N->(rw i).2.length<=b)(hm:σ ml=some (.list (ms.map C0)))(zm:ms.length=N)(bm:∀d∈ms,d<2^T)
  (q:∀c B9 (rs:List Nat),Ext σ B9->σ c=none->rs.length=N->(∀d∈rs,d<2^T)->B9 c=some (.list (rs.map C0))->Q (.ref c) B9):J9 W (n+1) (.ref 433) [C0 N,.ref rl,.ref ml] σ Q:=by
 have Nw:N<=16777216:=A9 hN (by decide)
 refine P.fn EF 32 rfl (ρ:=[C0 N,.ref rl,.ref ml,.M7,.M7,.M7,.M7,.M7,.M7,.M7,.M7,.M7,.M7]) rfl (K1 (H7 rfl (HQ (Led.start σ) hm (lz zm Nw) λ c3 aK _ L1=>K1 (O6 (K7 L1 rfl λ ct W9 L2=>P2 rfl (CE L2 (L2.get 1 rfl) Nw λ c4 Y8 L3=>P3 rfl (K1 (K7 L3 rfl λ c6 bK L4=>?_))))))))
 replace L4:Led σ bK (dL c3 ct c4 c6 ms (List.replicate N 0) [] []) []:=by show Led _ _ (_::_::(c4,.list (List.map C0 (List.replicate N 0)))::_) _;rw[nV];exact L4
 let wd:Nat->Nat:=λ i=>(rw i).2.length
 let F:(Nat->PV)->List PV:=λ v=>[C0 N,.ref rl,.ref ml,.ref c3,.ref c4,C0 (N+1),.ref c6,v 7,v 8,v 9,v 10,v 11,v 12]
 have cl:∀{l:List Nat},l.length=N->l.count 0<=N:=λ e=>e▸List.count_le_length
 refine Z1 (H7 rfl (aP (Z0 F (λ _ _ B9=>∃res lN U2,Dh N (2^T) res lN∧Df N wd (lN.count 0) U2 []∧Led σ B9 (dL c3 ct c4 c6 res lN U2 []) []) rfl (fH Nw) ⟨ms,List.replicate N 0,[],⟨zm,bm,K8⟩,⟨λ _ h=>(nomatch h),(Y3 _).symm▸cl K8,(Y3 _).symm▸cl K8,λ _ h=>(nomatch h),.nil⟩,L4⟩ ?_ ?_)))
 ·intro pre s post u cH R hl hQ;intros hQ res lN U2 hZ;delta hZ H D L;intro hR
  have hs:=(P9 hl).2
  have La:=H.hl.symm▸hs
  refine cZ (t:=!decide (((lN.getD s 0:Nat):Int)=0)) (N3 (I8 rfl rfl (W8 0 (L.get 2 rfl) La)) rfl rfl) (λ _=>MG (hR .cont _ _ trivial trivial ⟨res,lN,U2,H,D,L⟩ rfl)) λ h0=>?_
  have cz:=ZE (v:=U2.length+1) (Nat.succ_ne_zero _) La (qG.mp (D0 (Qa h0)))
  have pz:U2.length<=327680:=A9 (A9 (J6 ..) D.z1) hN
  rw[<-cz]at D
  refine O7 (WK (λ _=>rfl) (λ _=>rfl) (λ _=>rfl) L pz La λ eK L=>K1 (bP (F9 (uP (I9 rfl (I9 (V8 rfl (len_list (L.get 3 rfl) ((A8 ..).trans B0))) (p1 rfl))) λ a ha=>M0 λ c8 Ud=>?_))))
  have L:=(L.wG ha (.list [C0 s,C0 (U2.length+1),C0 0])).alloc Ud (.list [.ref a])
  generalize PH.set _ c8 _=eW at L ⊢
  let F1:(Nat->PV)->List PV:=λ v=>[C0 N,.ref rl,.ref ml,.ref c3,.ref c4,C0 (N+1),.ref c6,C0 s,.ref c8,v 9,v 10,v 11,v 12]
  refine Ie (β:=List Nat×List Nat×List Nat×List Fr) F1 (λ y=>y.2.1.count 0*(b+2)+Ba wd y.2.2.2) (λ y _ B9=>Dh N (2^T) y.1 y.2.1∧Df N wd (y.2.1.count 0) y.2.2.1 y.2.2.2∧Led σ B9 (dL c3 ct c4 c6 y.1 y.2.1 y.2.2.1 [(c8,.list (Do y.2.2.2))]) (Uh y.2.2.2)) (λ y=>!(Do y.2.2.2).isEmpty)
   (res,lN.set s (U2.length+1),U2++[s],[⟨a,s,U2.length+1,0⟩]) rfl ⟨⟨H.rl,H.rb,(O9 ..).trans H.hl⟩,D.push hs a,L⟩ ?_ ?_ ?_
  ·intro y u σ hQ;delta hQ hQ hQ L
   show iI _ _ (σ c8)=_
   rw[L.get 4 rfl];rfl
  ·clear L H D pz cz La h0 hR
   intro hQ;clear L1 L2 L3 L4 P bm cl Nw Ud hm hs zm W9 Y8 bK;obtain⟨res,lN,U2,fr⟩:=hQ;intro u qB R TM;delta TM H D L;intro ht hR
   obtain⟨fs,f,rfl⟩:=PG (l:=fr) λ e=>by rw[e]at ht;cases ht
   have hZ:=D.fx f (G4 _ (.head _));delta hZ fx f1 f2 f3
   have Xr:=H.hl.symm▸fx
   have Xq:=H.rl.symm▸fx
   have L:Led σ qB (dL c3 ct c4 c6 res lN U2 [(c8,.list (Do fs++[PV.ref f.a])),(f.a,.list [C0 f.x,C0 f.h,C0 f.k])]) (Uh fs):=by
    have L':Led σ qB (dL c3 ct c4 c6 res lN U2 [(c8,.list (List.map _ (fs++[f])))]) (List.map _ (fs++[f])):=L
    rw[C1,C1]at L'
    exact L'.pull
   have fz:fs.length<327680:=by have:=D.z2;rw[B0]at this;exact D1 (D1 (K5 _) (J6 ..)) (A9 this hN)
   have pz:U2.length<=327680:=A9 (A9 (J6 ..) D.z1) hN
   have Kz:=I0 (L.ext _ _ hr.1) (V5 (f:=λ i=>PV.ref (rw i).1) (bW fx))
   have DF:=L.ext _ _ (hr.2 f.x fx).1
   refine P3 (I8 rfl rfl (DW (L.get 4 rfl))) (P3 (I8 rfl rfl (I0 (k:=0) (L.get 5 rfl) rfl)) (cZ (t:=decide ((f.k:Int)<((rw f.x).2.length:Int))) (N3 (I8 rfl rfl (I0 (k:=2) (L.get 5 rfl) rfl)) (V8 (I8 rfl rfl Kz) (len_list DF (A8 ..))) rfl) (λ lt=>?_) λ _=>O7 ?_))
   ·have lt:=T7.mp (D0 lt)
    have hy:=(hr.2 f.x fx).2 _ (B5 (W5 0 lt))
    refine P3 (I8 (I8 rfl rfl Kz) (I8 rfl rfl (I0 (k:=2) (L.get 5 rfl) rfl)) (W8 0 DF lt)) ?_
    generalize (rw f.x).2.getD f.k 0=y at hy
    have Kx:=H.hl.symm▸hy
    have Tr:=H.rl.symm▸hy
    refine cZ (t:=decide (((lN.getD y 0:Nat):Int)=0)) (N3 (I8 rfl rfl (W8 0 (L.get 2 rfl) Kx)) rfl rfl) (λ h0=>?_) λ h0=>?_
    ·have cz:=ZE (v:=U2.length+1) (Nat.succ_ne_zero _) Kx (qG.mp (D0 h0))
     rw[<-cz]at D hR
     refine WK (λ _=>rfl) (λ _=>rfl) (λ _=>rfl) L pz Kx λ eK L=>N4 (T0 rfl (N9 (L.get 4 rfl) _) (F9 (uP (I9 rfl (I9 (V8 rfl (len_list (L.get 3 rfl) ((A8 ..).trans B0))) (p1 rfl))) λ a ha=>M0 ?_)))
     have L:=(Led.give (L:=dL c3 ct c4 c6 res (lN.set y (U2.length+1)) (U2++[y]) [(c8,.list (Do fs++[PV.ref f.a]))]) L).wG ha (.list [C0 y,C0 (U2.length+1),C0 0])
     generalize PH.set _ a _=eW at L ⊢
     refine aW 4 L rfl ?_ λ qB _ L=>MG (hR .cont _ _ (res,lN.set y (U2.length+1),U2++[y],fs++[f]++[⟨a,y,U2.length+1,0⟩]) trivial ?_ ⟨⟨H.rl,H.rb,(O9 ..).trans H.hl⟩,D.push hy a,?_⟩ rfl)
     ·rw[B0,A8];exact A9 fz (by decide)
     ·show _*_+Ba wd (fs++[f]++[_])<(_+1)*_+Ba wd (fs++[f])
      rw[sN wd (fs++[f])]
      have:=hb y hy
      show _+(_+((rw y).2.length+1))<_
      lia
     ·show Led σ qB (dL _ _ _ _ _ _ _ [(c8,.list (List.map _ (fs++[f]++[_])))]) (List.map _ (fs++[f]++[_]))
      rw[C1,C1,C1,C1]
      exact L
    ·refine mV 5 L rfl (x:=C0 (f.k+1)) (jJ (I8 rfl rfl (I0 (k:=2) (L.get 5 rfl) rfl)) rfl rfl) rfl rfl (C3 rfl) λ eK _ L=>?_
     refine oR (λ O5 B9=>O5=[C0 N,.ref rl,.ref ml,.ref c3,.ref c4,C0 (N+1),.ref c6,C0 s,.ref c8,.ref f.a,C0 f.x,C0 y,u 12]∧∃pA,pA.length=N∧pA.count 0<=lN.count 0∧Led σ B9 (dL c3 ct c4 c6 res pA U2 [(c8,.list (Do fs++[PV.ref f.a])),(f.a,.list [C0 f.x,C0 f.h,C0 (f.k+1)])]) (Uh fs)) ?_
      λ R1 yE=>uS (N3 (I8 rfl rfl (W8 0 (L.get 2 rfl) Kx)) (I8 rfl rfl (W8 0 (L.get 2 rfl) Xr)) rfl) ⟨λ _=>mV 2 L rfl (x:=C0 (lN.getD y 0)) (I8 rfl rfl (W8 0 (L.get 2 rfl) Kx)) rfl rfl (Cp H.hl fx) λ eW _ L=>s_end (yE _ _ ⟨rfl,lN.set f.x (lN.getD y 0),(O9 ..).trans H.hl,ZD λ e=>K6 h0 (C7 Int.ofNat e),ZC L⟩),λ _=>s_end (yE _ _ ⟨rfl,lN,H.hl,D7 _,L⟩)⟩
     intro _ eW hQ;obtain rfl:=hQ.1;refine A0 hQ.2 λ pA Q0=>?_;delta Q0 z1 z2 L;try clear hQ
     refine mV 0 L rfl (x:=C0 (res.getD f.x 0|||res.getD y 0)) (jJ (I8 rfl rfl (W8 0 (L.get 0 rfl) Xq)) (I8 rfl rfl (W8 0 (L.get 0 rfl) Tr)) (C7 (λ z=>some (PV.int z)) (wF _ _))) rfl rfl (Cp H.rl fx) λ qB _ L=>MG (hR .cont _ _ (res.set f.x (res.getD f.x 0|||res.getD y 0),pA,U2,fs++[⟨f.a,f.x,f.h,f.k+1⟩]) trivial
      (Nat.add_lt_add_of_le_of_lt (Nat.mul_le_mul_right _ z2) (by show Ba wd _<Ba wd _;rw[sN,sN];exact Nat.add_lt_add_left (Nat.sub_lt_sub_left (dI lt) (K5 _)) _)) ⟨⟨(O9 ..).trans H.rl,λ d hd=>(aT hd).elim (H.rb d) λ e=>e▸Z4 (H.rb _ (B5 (W5 0 Xq))) (H.rb _ (B5 (W5 0 Tr))),z1⟩,D.step lt z2,?_⟩ rfl)
     show Led σ qB (dL _ _ _ _ _ _ _ [(c8,.list (List.map _ (fs++[_])))]) (List.map _ (fs++[_]))
     rw[C1,C1]
     exact Led.give (L:=dL c3 ct c4 c6 (res.set f.x (res.getD f.x 0|||res.getD y 0)) pA U2 [(c8,.list (Do fs++[PV.ref f.a]))]) (ZB L)
   ·refine N4 (J1 rfl (N9 (L.get 4 rfl) _) rfl (Hl (L.get 4 rfl) (by rw[A8];exact nM fz (by decide)) ?_))
    have L:=L.set 4 rfl (.list (Do fs))
    generalize qB.set c8 _=eK at L ⊢
    let F2:(Nat->PV)->List PV:=λ v=>[C0 N,.ref rl,.ref ml,.ref c3,.ref c4,C0 (N+1),.ref c6,C0 s,.ref c8,.ref f.a,C0 f.x,v 11,v 12]
    let I:List Nat->List Nat->List Nat->PH->Prop:=λ zV pA gO B9=>Dh N (2^T) zV pA∧pA.count 0<=lN.count 0∧gO<+:U2∧Led σ B9 (dL c3 ct c4 c6 zV pA gO [(c8,.list (Do fs)),(f.a,.list [C0 f.x,C0 f.h,C0 f.k])]) (Uh fs)
    have BJ:=D.BJ (G4 fs (.head _))
    refine oR (λ O5 B9=>O5=F2 (lo O5)∧∃zV pA gO,I zV pA gO B9∧f.h<=gO.length+1) ?_ λ R1 yE=>uS (N3 (I8 rfl rfl (W8 0 (L.get 2 rfl) Xr)) (I8 rfl rfl (I0 (k:=1) (L.get 5 rfl) rfl)) rfl) ⟨λ _=>P3 rfl ?_,λ _=>s_end (yE _ _ ⟨rfl,res,lN,U2,⟨H,D7 _,sI _,L⟩,Z5 BJ⟩)⟩
    ·intro O5 eW hQ;generalize hQ.1=e;refine ee3.e hQ.2 λ zV pA gO Q0=>?_;generalize Q0.1=fT;delta fT H' z' p' L';delta Q0 Q0 hh;try clear hQ
     rw[e]
     refine s_end (hR .next _ _ (zV,pA,gO,fs) trivial ?_ ⟨H',D.pop p' hh z',Led.drop (L:=dL c3 ct c4 c6 zV pA gO [(c8,.list (Do fs))]) L'⟩ rfl)
     refine Nat.add_lt_add_of_le_of_lt (Nat.mul_le_mul_right _ z') ?_
     show Ba wd _<Ba wd _
     rw[sN]
     exact gJ (Nat.sub_pos_of_lt (hM f3))
    ·refine Ie (β:=Int×List Nat×List Nat×List Nat) F2 (λ y=>y.2.2.2.length) (λ y v B9=>v 12=.int y.1∧I y.2.1 y.2.2.1 y.2.2.2 B9∧(f.h<=y.2.2.2.length∨(y.1=f.x∧f.h<=y.2.2.2.length+1))) (λ y=>!decide (y.1=(f.x:Int))) (-1,res,lN,U2) rfl ⟨rfl,⟨H,D7 _,sI _,L⟩,.inl BJ⟩
      (λ y v B9 h=>N3 (rH h.1 rfl) rfl rfl) ?_ λ y v B9 ⟨_,i,d⟩ ht=>s_end (yE _ _ ⟨rfl,_,_,_,i,d.elim Z5 (·.2)⟩)
     intro hQ;clear f3 Xr Xq fz hN yE ha hb BJ hr DF Kz;clear hR L ht H;obtain⟨z,zV,pA,gO⟩:=hQ;intro v eW R2 TM;generalize TM.1=cw;generalize TM.2=Q0;delta Q0 H' z' p' L';delta TM TM TM d;intro ht bR
     have hp:f.h<=gO.length:=d.resolve_right λ e=>K6 (WV ht) e.1
     clear R1 a cw;clear L ht;obtain⟨p2,y,rfl⟩:=PG (l:=gO) λ e=>by rw[e]at hp;exact absurd (A9 f1 hp) (Nat.not_succ_le_zero 0)
     have hy:=D.pl y (p'.subset (G4 _ (.head _)))
     have pl:=p'.length_le
     rw[B0]at pl hp
     have Tj:p2.length<327680:=D1 pl pz
     refine K1 (J1 rfl (N9 (L'.get 3 rfl) _) rfl (Hl (xs:=p2.map C0) (y:=C0 y) ((L'.get 3 rfl).trans (by rw[C1];rfl)) (by rw[A8];exact nM Tj (by decide)) ?_))
     have L:=L'.set 3 rfl (.list (p2.map C0))
     generalize eW.set c6 _=qB at L ⊢
     refine mV 2 L rfl (x:=C0 (N+1)) rfl rfl rfl (Cp H'.hl hy) λ IF _ L=>mV 0 (ZC L) rfl (x:=C0 (zV.getD f.x 0)) (I8 rfl rfl (W8 0 (L.get 0 rfl) (H'.rl.symm▸fx))) rfl rfl (Cp H'.rl hy) λ iU _ L=>s_end (bR .next _ _ ((y:Int),zV.set y (zV.getD f.x 0),pA.set y (N+1),p2) trivial (by show p2.length<(p2++[y]).length;rw[B0];exact K5 _)
      ⟨rfl,⟨⟨(O9 ..).trans H'.rl,λ d hd=>(aT hd).elim (H'.rb d) λ e=>e▸H'.rb _ (B5 (W5 0 (H'.rl.symm▸fx))),(O9 ..).trans H'.hl⟩,A9 (ZD (Nat.succ_ne_zero _)) z',(List.prefix_append ..).trans p',ZB L⟩,?_⟩ rfl)
     refine(Nat.lt_or_ge p2.length f.h).elim (λ c=>.inr ⟨?_,hp⟩) .inl
     have e:f.h=p2.length+1:=Nat.le_antisymm hp c
     intros p' t hZ;clear H' L' c d f1 fx bR hl hp hy Tj pl post pre pz v z' eW;clear D;obtain rfl:=hZ
     rw[e,C6]at f2
     have f2:(p2++y::t)[p2.length]? =some f.x:=f2
     rw[N2 (D7 _),hJ]at f2
     exact C7 Int.ofNat (H1 f2)
  ·intro hQ;obtain⟨res,lN,U2,fr⟩:=hQ;intro u qB TM;delta TM H D L;intro ht
   have e:fr=[]:=by
    clear L D;cases fr with
    |nil=>rfl
    |cons=>cases ht
   clear ht;subst e
   exact s_end (hR .next _ _ trivial trivial ⟨res,lN,U2,H,D,Led.drop (L:=dL c3 ct c4 c6 res lN U2 []) L⟩ rfl)
 ·intro u cH hQ;intros hQ res lN U2 hZ;delta hZ H D L
  exact X7 rfl (q c3 cH res L.ext (L.new _ (.head _)) H.rl H.rb (L.get 0 rfl))
end
theorem Led.keep{C8 σ:PH}{L X R:List (Addr×PO)}(h:Led C8 σ (L++X) R){C:Prop}(k:∀τ,Ext C8 τ->Led τ σ L []->(∀r∈X++R,τ r.1=some r.2)->C):C:=by
 refine A0 (h.freeze (M:=L) (C6 .. ▸qY ..)) λ τ hZ=>?_;delta hZ E L' hk
 refine k τ E L' λ r hr=>hk r (C6 .. ▸G4 _ hr) λ m=>?_
 have nd:=h.nd
 rw[C6,C1]at nd
 exact(O8.mp nd).2.2 _ m _ (J2 hr) rfl
theorem Led.fz{C8 σ:PH}{p q:Addr×PO}{L R:List (Addr×PO)}(h:Led C8 σ (p::q::L) R){C:Prop}(k:∀τ,Ext C8 τ->Led τ σ [p,q] []->(∀r∈L++R,τ r.1=some r.2)->C):C:=Led.keep (L:=[p,q]) (X:=L) h k
theorem Led.Yc{C8 σ:PH}{p q r s:Addr×PO}{A B:List (Addr×PO)}(h:Led C8 σ [p,q,r] (A++([s]++B))){C:Prop}(k:∀τ,Ext C8 τ->Led τ σ [p,q] (A++B)->τ r.1=some r.2->τ s.1=some s.2->C):C:=by
 have h':=h.perm (L':=[r,s,p,q]) (R':=A++B) ((List.Perm.append_right _ (List.perm_append_comm (l₁:=[r,s]) (l₂:=[p,q]))).trans (jE [p,q,r] (List.perm_middle (a:=s) (l₁:=A) (l₂:=B)).symm))
 refine A0 (h'.freeze (M:=[p,q]++(A++B)) (.cons _ (.cons _ (.refl _)))) λ τ hZ=>?_;delta hZ E L' hk
 have nd:(r.1::s.1::([p,q]++(A++B)).map (·.1)).Nodup:=h'.nd
 exact k τ E (L'.sub (L':=[p,q]) (by rw[C9];exact .refl _)) (hk _ (.head _) λ m=>(N7.mp nd).1 (.tail _ m)) (hk _ (.tail _ (.head _)) (N7.mp (N7.mp nd).2).1)
theorem UR.ext{σ B9:PH}(E:Ext σ B9){a:Addr}{N:Nat}{rw:Nat->Addr×List Nat}(h:UR σ a N rw):UR B9 a N rw:=⟨E _ _ h.1,λ i hi=>⟨E _ _ (h.2 i hi).1,(h.2 i hi).2⟩⟩
theorem Ck(l k:List Addr):lZ (l++k) (λ _=>[])=lZ l (λ _=>[])++lZ k λ _=>[]:=by
 have e:∀l:List Addr,lZ l (λ _=>[])=l.map λ a=>(a,PO.list []):=λ l=>by
  refine iA λ i=>?_
  unfold lZ
  rw[H9,H9,kJ]
  cases l[i]? <;>rfl
 rw[e,e,e,C1]
section
variable{W:Wd}(P:dQ W){n:Nat}{σ:PH}{g:Addr}{G:Gr}(hG:pZ σ g G)(w:G.Wf){Q:PV->PH->Prop}
include P hG w
theorem NU(q:∀c B9 (fd:List Bool),Ext σ B9->σ c=none->fd.length=G.names.length->B9 c=some (.list (fd.map .bool))->Q (.ref c) B9):J9 W (n+2) (.ref 216) [.ref g] σ Q:=by
 refine P.fn zX 14 rfl (ρ:=[.ref g]) rfl (W3 (T5 (F9 (P2 rfl (F9 (O6 (K7 (Led.start σ) rfl λ ct aK L1=>J1 rfl ((hG.ext L1.ext).H2 "symbol_count" 122 (by simp)) rfl (pE (n:=n) P (hG.ext L1.ext) (CE L1 (L1.get 0 rfl) (A9 w.names (by decide)) λ c4 W9 L2=>M0 ?_)))))))))
 exact ZO P (hG.ext L2.ext) w (bs:=List.replicate G.names.length false) (by rw[nV];exact L2.get 1 rfl) K8 (λ c B9 fd E hc=>q c B9 fd (L2.ext.trans E) (L2.ext.none hc))
end
section
variable{W:Wd}(P:dQ W){n:Nat}{σ:PH}{g a t:Addr}{As:List SA}{S:List St}{G:Gr}{Q:PV->PH->Prop}(w:G.Wf)(hG:pZ σ g G)(hA:KR σ a g t As S)(au:yK G S)
include P w hG hA au
theorem Mp(q:∀x B9 ma ms m',Ext σ B9->fld B9 (.ref x) "masks"=some (.ref ma)->B9 ma=some (.dict ms m')->MI G S ms->Q (.ref x) B9):J9 W (n+5) (.ref 490) [.ref a] σ Q:=by
 refine vQ P 6 33 1 (r:=jH) rfl rfl (O5:=[.ref a,.M7]) (λ _=>rfl) (λ _=>rfl) λ x dx aK L=>?_
 refine Q9 rfl (H7 (p1 (D8 rfl ((hA.ext L.ext).ob.fld _))) (NU (n:=n+1) P (hG.ext L.ext) w λ nu W9 nb E hc hz hn=>?_))
 refine Led.fz (L.adopt E hc hn) λ τ E1 L fZ=>?_
 clear hc hn
 have hn:=fZ _ (.head _)
 have hG:=hG.ext E1
 have hA:=hA.ext E1
 refine aD L rfl (C3 rfl) λ Y8 L=>?_
 refine Q9 rfl (K7 L rfl λ ta bK L=>aD L rfl (C3 rfl) λ cH L=>?_)
 refine Q9 rfl (dR L λ ia eK L=>aD L rfl (C3 rfl) λ eW L=>?_)
 refine N4 (J1 rfl ((L.obj 0 1 rfl rfl).H2 "number_transitions" rfl rfl) rfl (Fm (n:=n+1) P w hG hA au P.ok rfl rfl rfl L λ tr es m qB T L=>?_))
 refine L.fz λ Ol E2 L fZ=>?_
 have ht:=fZ _ (.head _)
 have hi:=fZ _ (.tail _ (.head _))
 have hn:=E2 _ _ hn
 have hG:=hG.ext E2
 have hA:=hA.ext E2
 refine Q9 rfl (K7 L rfl λ da IF L=>aD L rfl (C3 rfl) λ iU L=>?_)
 refine Q9 rfl (K7 L rfl λ ra nZ L=>aD L rfl (C3 rfl) λ rA L=>?_)
 refine N4 (J1 rfl ((L.obj 0 1 rfl rfl).H2 "find_reads" rfl rfl) rfl (ZS (n:=n) P w hG hA au T hn hz ht hi rfl rfl rfl rfl rfl rfl L λ ds rows FQ dz db rz rb L=>?_))
 refine L.fz λ UV E3 L fZ=>?_
 have hd:=fZ _ (.head _)
 have hr:UR UV ra tr.length (λ i=>rows.getD i (0,[])):=by
  refine⟨(fZ _ (.tail _ (.head _))).trans (C7 (λ l=>some (PO.list l)) ?_),λ i h=>?_⟩
  ·show refs _=_
   rw[<-rz,refs]
   conv=>lhs;rw[zW (0,[]) rows,G2,G2]
   rfl
  ·have hm:=B5 (W5 (l:=rows) (0,[]) (rz.symm▸h))
   exact⟨fZ _ (.tail _ (.tail _ (J2 (f:=λ p=>(p.1,PO.list (p.2.map C0))) hm))),(rb _ hm).2⟩
 have s9:∀i,i<tr.length->(rows.getD i (0,[])).2.length<=10:=λ i h=>(rb _ (B5 (W5 (l:=rows) (0,[]) (rz.symm▸h)))).1
 have ht:=E3 _ _ ht
 have hi:=E3 _ _ hi
 have hn:=E3 _ _ hn
 have hG:=hG.ext E3
 have hA:=hA.ext E3
 have zt:tr.length<=2^24:=A9 T.len (by decide)
 have it:=λ{B9} (E:Ext UV B9)=>V6 (σ:=B9) (E _ _ ht) ((A8 ..).symm▸zt)
 refine Q9 rfl (FS L (D8 rfl (L.self rfl)) (it L.ext) (λ y _=>⟨[y],rfl⟩) λ Tq On l1 z1 L=>aD L rfl (C3 rfl) λ Iv L=>?_)
 refine Q9 rfl (FS (Led.start Iv) (D8 rfl (L.self rfl)) (it L.ext) (λ y _=>⟨[y],rfl⟩) λ Vi Om l2 z2 L'=>aD (L.join L') rfl (C3 rfl) λ Bo L=>?_)
 refine Led.Yc L λ Oj E4 L b9 Wp=>?_
 rw[<-Ck]at L
 have ht:=E4 _ _ ht
 replace z1:=z1.trans (A8 ..)
 refine Q9 rfl (dR L λ la o0 L=>aD L rfl (C3 rfl) λ n9 L=>?_)
 refine N4 (J1 rfl ((L.obj 0 1 rfl rfl).H2 "find_includes" rfl rfl) rfl (Fs (n:=n) P w (hG.ext E4) (hA.ext E4) au T (E4 _ _ hn) hz ht (E4 _ _ hi) rfl rfl rfl rfl rfl rfl rfl rfl b9 Wp z1 (z2.trans (A8 ..)) L λ ls m3 A3 c n8 K hC L=>?_))
 refine L.fz λ k7 E5 L fZ=>?_
 have hl:=fZ _ (.head _)
 have DF:∀i a,(l1++l2++A3)[i]? =some a->k7 a=some (.list ((c i).map C0)):=λ i a h=>fZ _ (.tail _ (B5 (aC h)))
 have ht:=E5 _ _ ht
 refine P3 (x:=C0 tr.length) (V8 (D8 rfl (L.self rfl)) (len_list (L.ext _ _ ht) (A8 ..))) ?_
 refine Q9 rfl (H7 (I9 rfl (I9 (D8 rfl (L.self rfl)) (p1 (D8 rfl (L.self rfl))))) (FJ (n:=n+2) (T:=G.tc) P T.len (hr.ext ((E4.trans E5).trans L.ext)) s9 (L.ext _ _ (E5 _ _ (E4 _ _ hd))) dz db λ rm n0 rs E hc hz hb Wt=>?_))
 refine Led.fz (L.adopt E hc Wt) λ k0 E6 L fZ=>?_
 have Wt:=fZ _ (.head _)
 refine aD L rfl (C3 rfl) λ l9 L=>?_
 have hi:UR k0 Tq tr.length (λ i=>(l1.getD i 0,c i)):=by
  refine⟨(E6 _ _ (E5 _ _ b9)).trans (by rw[fG,z1]),λ i h=>⟨E6 _ _ (DF i _ ?_),(hC i).2⟩⟩
  rw[C6,I4 (z1.symm▸h)]
  exact W5 0 (z1.symm▸h)
 refine Q9 rfl (H7 (I9 rfl (I9 (D8 rfl (L.self rfl)) (p1 (D8 rfl (L.self rfl))))) (FJ (n:=n+2) (T:=G.tc) P T.len (hi.ext L.ext) (λ i _=>Y2 (hC i).1 (hC i).2) (L.ext _ _ Wt) hz hb λ fm l3 fs E hc hz hb Xc=>?_))
 refine Led.fz (L.adopt E hc Xc) λ dm E7 L fZ=>?_
 have Xc:=fZ _ (.head _)
 have Yr:=E6.trans E7
 refine aD L rfl (C3 rfl) λ k9 L=>?_
 refine Q9 rfl (J1 rfl ((L.obj 0 1 rfl rfl).H2 "joined_masks" rfl rfl) rfl (ZR (n:=n+2) P (L.self rfl) (L.self rfl) (L.ext _ _ (Yr _ _ hl)) (L.ext _ _ Xc) K (D7 _) hz T.len hb (λ a ha=>?_) λ ma k8 ms m' E hc hm M=>aD (L.adopt E hc hm) rfl (C3 rfl) λ Uu L=>s_end ⟨rfl,q x Uu ma ms m' ((((((E1.trans E2).trans E3).trans E4).trans E5).trans Yr).trans L.ext) (L.self rfl) (L.get 2 rfl) M⟩))
 refine A0 (List.getElem?_of_mem (G4 (l1++l2) ha)) λ i hi=>?_
 exact⟨c i,L.ext _ _ (Yr _ _ (DF i a hi)),(hC i).1,(hC i).2⟩
theorem RU(q:∀ma B9 ms m',Ext σ B9->B9 ma=some (.dict ms m')->MI G S ms->Q (.ref ma) B9):J9 W (n+6) (.ref 508) [.ref a] σ Q:=
 P.fn tJ 40 rfl (ρ:=[.ref a]) rfl (W3 (Jb (H7 rfl (Mp (n:=n) P w hG hA au λ x B9 ma ms m' E h1 h2 M=>⟨_,h1,q ma B9 ms m' E h2 M⟩))))
end
abbrev fQ(l:List (Nat×Int)):List (PK×PV):=l.map λ p=>(PK.int (p.1:Int),.int p.2)
theorem fE(l:List (Nat×Int))(i:Int):U3 (.int i) (fQ l)=true:=G3.mpr λ p hp=>by
 refine A0 (D2.mp hp) λ q hZ=>?_;clear hp;obtain rfl:=hZ.2;try clear hZ;rfl
theorem uV{k:Nat}:∀{l:List (Nat×Int)},(fQ l).lookup (.int k)=(l.lookup k).map .int
 |[]=>rfl
 |p::l=>by
  show List.lookup (PK.int k) ((PK.int p.1,PV.int p.2)::fQ l)=Option.map _ (List.lookup k (p::l))
  rw[I1,I1,uV (l:=l)]
  by_cases e:k=p.1
  ·rw[e,O2,O2];rfl
  ·rw[O0.mpr e,O0.mpr λ h=>e (by injection h with h;exact qZ h)]
theorem sW(k:Nat)(v:Int):∀l:List (Nat×Int),∃l',putK (.int k) (.int v) (fQ l)=fQ l'∧l'.length<=l.length+1∧∀p∈l',p=(k,v)∨p∈l
 |[]=>⟨[(k,v)],rfl,D7 _,λ p hp=>.inl (D5.mp hp)⟩
 |q::l=>by
  refine A0 (sW k v l) λ l' hZ=>?_;delta hZ e h1 h2
  show ∃l',(if PK.int q.1=PK.int k then(PK.int k,PV.int v)::fQ l else(PK.int q.1,PV.int q.2)::putK (.int k) (.int v) (fQ l))=_∧_∧_
  split
  ·exact⟨(k,v)::l,rfl,cN _,λ p hp=>(F8.mp hp).imp id (.tail _)⟩
  ·exact⟨q::l',C7 _ e,O1 h1,λ p hp=>(F8.mp hp).elim (λ h=>.inr (h▸.head _)) λ h=>(h2 p h).imp id (.tail _)⟩
theorem GU{k:Nat}{v:Int}:∀{l:List (Nat×Int)},l.lookup k=some v->(k,v)∈l
 |p::l,h=>by
  rw[I1]at h
  split at h
  ·rename_i e;cases h;rw[eq_of_beq e];exact .head _
  ·exact .tail _ (GU h)
theorem Gx{σ:PH}{a:Addr}{l:List (Nat×Int)}{m:Nat}(h:σ a=some (.dict (fQ l) m)){p:Nat×Int}(hp:p∈l):∃v,(p.1,v)∈l∧gD σ (.ref a) (C0 p.1)=some (.int v):=by
 refine A0 (NB (J2 (f:=λ p:Nat×Int=>(PK.int (p.1:Int),PV.int p.2)) hp)) λ v e=>?_
 have e':=e
 rw[uV]at e'
 refine A0 (O3.mp e') λ w hZ=>?_;generalize hZ.1=e1;clear e';obtain rfl:=hZ.2;try clear hZ
 exact⟨w,GU e1,(bB h rfl).trans e⟩
def Cell(R:Nat)(c:Int):Prop:=c=1048576∨(And (-(R:Int)<c) (c<32768))
structure RM where
 sA:Addr
 gA:Addr
 lA:Addr
 tA:Addr
 m1:Nat
 m2:Nat
 sh:List (Nat×Int)
 go:List (Nat×Int)
 lk:List (Addr×Nat×Nat)
structure Su(G:Gr)(D:RM):Prop where
 sh:∀p∈D.sh,p.1<G.tc∧Cell G.rules.length p.2
 go:∀p∈D.go,0<=p.2∧p.2<32768
 lk:∀p∈D.lk,1<=p.2.1∧p.2.1<G.rules.length∧p.2.2<2^G.tc
 z1:D.sh.length<=10
 z2:D.go.length<=10
 z3:D.lk.length<=15
 as:(D.lk.map (·.2.1)).Pairwise (·<·)
abbrev We(l:List (Addr×Nat×Nat)):List (Addr×PO):=l.map λ p=>(p.1,.list [C0 p.2.1,C0 p.2.2])
abbrev Vp(x dx g:Addr)(i:Nat)(D:RM):List (Addr×PO):=[(x,.inst 731 dx),(dx,.attrs 731 [("grammar",.ref g),("number",C0 i),("shifts",.ref D.sA),("gotos",.ref D.gA),("looks",.ref D.lA),("barred",.int 0),("settled",.ref D.tA)]),(D.sA,.dict (fQ D.sh) D.m1),(D.gA,.dict (fQ D.go) D.m2),(D.lA,.list (D.lk.map λ p=>.ref p.1)),(D.tA,.list [])]
structure OP(σ:PH)(x g:Addr)(i:Nat)(D:RM):Prop where
 ob:aS σ x 731 [("grammar",.ref g),("number",C0 i),("shifts",.ref D.sA),("gotos",.ref D.gA),("looks",.ref D.lA),("barred",.int 0),("settled",.ref D.tA)]
 sh:σ D.sA=some (.dict (fQ D.sh) D.m1)
 go:σ D.gA=some (.dict (fQ D.go) D.m2)
 ll:σ D.lA=some (.list (D.lk.map λ p=>.ref p.1))
 st:σ D.tA=some (.list [])
 lk:∀p∈D.lk,σ p.1=some (.list [C0 p.2.1,C0 p.2.2])
theorem OP.ext{σ B9:PH}(E:Ext σ B9){x g:Addr}{i:Nat}{D:RM}(h:OP σ x g i D):OP B9 x g i D:=⟨h.ob.ext E,E _ _ h.sh,E _ _ h.go,E _ _ h.ll,E _ _ h.st,λ p hp=>E _ _ (h.lk p hp)⟩
theorem Pn{σ:PH}{x dx g:Addr}{i:Nat}{D:RM}(h:∀r∈Vp x dx g i D++We D.lk,σ r.1=some r.2):OP σ x g i D:=by
 have m:=λ k {a o} (e:(Vp x dx g i D)[k]? =some (a,o))=>h (a,o) (G9 _ (B5 e))
 exact⟨⟨dx,m 0 rfl,m 1 rfl⟩,m 2 rfl,m 3 rfl,m 4 rfl,m 5 rfl,λ p hp=>h _ (G4 _ (J2 hp))⟩
section
variable{W:Wd}(P:dQ W){n:Nat}{σ:PH}{g:Addr}{G:Gr}{Q:PV->PH->Prop}(hG:pZ σ g G)
include P hG
theorem ZQ{i t:Nat}(hi:i<G.rules.length)(q:Q .none σ):J9 W (n+1) (.ref 688) [.ref g,C0 i,C0 t] σ Q:=by
 refine ee2.e (hG.levels) λ l m hZ=>?_;delta hZ h1 h2
 refine ee3.e (hG.rule (C4 hi)) λ ru ra rb hZ=>?_;delta hZ r1 r2 r3 r4
 refine A0 (r4.level) λ lv r5=>?_
 exact P.fn IY 48 rfl (ρ:=[.ref g,C0 i,C0 t,.M7,.M7]) rfl (K1 (J1 (D8 rfl h1) (gV h2 _) (p1 (D8 (I8 (D8 rfl r1) rfl (I0 r2 r3)) r5)) (KD P.ok h2 (K1 (J1 (D8 rfl h1) (gV h2 _) (p1 rfl) (KD P.ok h2 (cZ (t:=true) rfl (λ _=>qR (P2 rfl q)) λ h=>nomatch h)))))))
end
theorem yK.Pq{G:Gr}{S:List St}(au:yK G S){s:St}(hs:s∈S){r:Nat}(h:r∈s.iV):1<=r∧r<G.rules.length:=by
 rw[au.rd s hs]at h
 refine A0 (D2.mp ((N8 _).mem_iff.mp h)) λ m hZ=>?_;generalize hZ.1=hm;clear h;obtain rfl:=hZ.2;try clear hZ
 have hZ:=J5.mp hm;delta hZ h1 h2
 exact⟨Nat.pos_of_ne_zero (D0 (F0.mp h2).2),(D3.mp (Gr.it (au.lt hs m h1)).rule).1⟩
theorem Cell.nat{G:Gr}(w:G.Wf){j:Nat}(h:j<32768):Cell G.rules.length j:=.inr ⟨by have:=w.pos;lia,T7.mpr h⟩
theorem ZA{W:Wd}(hW:W.Ok){n:Nat}{σ:PH}{Q:PV->PH->Prop}{a:Addr}{es:List (PK×PV)}{m:Nat}{l:List Int}{y v:PV}(e:σ a=some (.dict es m))(hs:U3 (.bM l) es=true)(hv:es.lookup (.bM l)=some v)(q:Q v σ):J9 W n (.builtin "dict.get") [.ref a,.tup (l.map .int),y] σ Q:=Ew hW e hs (by rw[hv];exact q)
section
variable{W:Wd}(P:dQ W){n:Nat}{σ:PH}{g a t:Addr}{As:List SA}{S:List St}{G:Gr}{Q:PV->PH->Prop}(w:G.Wf)(hG:pZ σ g G)(hA:KR σ a g t As S)(au:yK G S)
include P w hG hA au
theorem OB{i:Nat}(hi:i<S.length){ma:Addr}{ms:List (PK×PV)}{m':Nat}(hm:σ ma=some (.dict ms m'))(M:MI G S ms)(q:∀x dx B9 D,Led σ B9 (Vp x dx g i D) (We D.lk)->Su G D->Q (.ref x) B9):J9 W (n+2) (.ref 731) [.ref g,.ref (As.getD i CP).a,.ref ma] σ Q:=by
 refine vQ P 9 49 1 (r:=nB) rfl rfl (O5:=[.ref g,.ref (As.getD i CP).a,.ref ma,.M7,.M7]) (λ _=>rfl) (λ _=>rfl) λ x dx aK L=>?_
 refine Q9 rfl (P2 (D8 rfl (((hA.ext L.ext).at hi).ob.fld _)) (aD L rfl (C3 rfl) λ W9 L=>?_))
 refine Q9 rfl (dR L λ sA Y8 L=>aD L rfl (C3 rfl) λ bK L=>?_)
 refine Q9 rfl (dR L λ gA cH L=>aD L rfl (C3 rfl) λ eK L=>?_)
 have hs:S.getD i aA∈S:=B5 (W5 aA hi)
 have nd:=au.nd _ hs
 have No:=hA.at hi
 have kl:=au.Kn w hs
 rw[A8]at kl
 let F:(Nat->PV)->List PV:=λ v=>[.ref x,.ref g,.ref (As.getD i CP).a,.ref ma,v 4,v 5]
 let LA:List (Nat×Int)->Nat->List (Nat×Int)->Nat->List (Addr×PO):=λ sh m1 go m2=>[(x,.inst 731 dx),(dx,.attrs 731 [("grammar",.ref g),("number",C0 i),("shifts",.ref sA),("gotos",.ref gA)]),(sA,.dict (fQ sh) m1),(gA,.dict (fQ go) m2)]
 let RS:List (Nat×Int)->Prop:=λ sh=>∀p∈sh,p.1<G.tc∧Cell G.rules.length p.2
 let RG:List (Nat×Int)->Prop:=λ go=>∀p∈go,0<=p.2∧p.2<32768
 refine eY F (l:=(S.getD i aA).moves) (f:=λ p=>C0 p.1) (v:=.ref (As.getD i CP).mv) (λ pre _ B9=>∃sh m1 go m2,RS sh∧RG go∧sh.length<=pre.length∧go.length<=pre.length∧Led σ B9 (LA sh m1 go m2) []) rfl (D8 rfl (((hA.ext L.ext).at hi).ob.fld _))
  (yW ((hA.ext L.ext).at hi).mv (G3.mpr λ p hp=>by refine A0 (D2.mp hp) λ q hZ=>?_;clear hp;obtain rfl:=hZ.2;try clear hZ;rfl) (by rw[rL,G2];rfl) (GV kl (by decide))) ⟨[],0,[],0,λ _ h=>(nomatch h),λ _ h=>(nomatch h),D7 _,D7 _,L⟩ ?_ ?_
 ·intro pre p post u eW R hl hQ;intros hQ sh m1 go m2 hZ;delta hZ h1 h2 h3 h4 L7;intro hR
  have hZ:=P5 hl;delta hZ Hw hp
  obtain⟨y,j⟩:=p
  have hZ:=au.mv _ hs _ hp;delta hZ hy hj
  have hj:=D1 hj au.len
  have look:∀{B9},Ext σ B9->gD B9 (.ref (As.getD i CP).mv) (C0 y)=some (C0 j):=λ E=>(bB ((hA.ext E).at hi).mv rfl).trans (EN nd hp)
  have b1:∀{l:List (Nat×Int)},l.length<=pre.length->(fQ l).length<2^24:=λ h=>by rw[A8];exact H8 h (D1 Hw (A9 kl (by decide)))
  have st:∀{B9:PH} {L R:List (Addr×PO)},Led σ B9 L R->M9 eK (.ref (As.getD i CP).mv) B9:=λ h=>(h.ext _ _ No.mv).trans (L.ext _ _ No.mv).symm
  have e1:(pre++[(y,j)]).length=pre.length+1:=B0
  rw[e1]at hR
  have Zc:∀{v:Int} {m' B9},y<G.tc->Cell G.rules.length v->Led σ B9 [(x,.inst 731 dx),(dx,.attrs 731 [("grammar",.ref g),("number",C0 i),("shifts",.ref sA),("gotos",.ref gA)]),(sA,.dict (putK (.int y) (.int v) (fQ sh)) m'),(gA,.dict (fQ go) m2)] []->∃sh m1 go m2,RS sh∧RG go∧sh.length<=pre.length+1∧go.length<=pre.length+1∧Led σ B9 (LA sh m1 go m2) []:=λ{v m' B9} ht hc L=>by
   refine A0 (sW y v sh) λ r8 hZ=>?_;delta hZ e z hh
   rw[e]at L
   exact⟨r8,m',go,m2,λ p hp=>(hh p hp).elim (λ e=>e▸⟨ht,hc⟩) (h1 p),h2,A9 z (O1 h3),Z5 h4,L⟩
  refine cZ (t:=decide ((y:Int)=0)) (N3 rfl rfl rfl) (λ c=>rF 2 L7 rfl (x:=.int 1048576) rfl (D8 rfl (L7.self rfl)) rfl rfl (fE ..) (b1 h3) λ m3 qB _ L8=>O7 (s_end (hR .next _ _ trivial (st L8) (Zc ?_ (.inl rfl) L8) rfl))) λ _=>cZ (t:=decide ((y:Int)<(G.tc:Int))) (N3 rfl (D8 rfl (hG.ext L7.ext).tc) rfl) (λ c=>?_) λ _=>?_
  ·exact qG.mp (D0 c)▸D1 (by decide) w.t3
  ·exact rF 2 L7 rfl (x:=C0 j) (I8 (D8 rfl (((hA.ext L7.ext).at hi).ob.fld _)) rfl (look L7.ext)) (D8 rfl (L7.self rfl)) rfl rfl (fE ..) (b1 h3) λ m3 qB _ L8=>O7 (O7 (s_end (hR .next _ _ trivial (st L8) (Zc (T7.mp (D0 c)) (.nat w hj) L8) rfl)))
  ·refine rF 3 L7 rfl (x:=C0 j) (I8 (D8 rfl (((hA.ext L7.ext).at hi).ob.fld _)) rfl (look L7.ext)) (D8 rfl (L7.self rfl)) rfl rfl (fE ..) (b1 h4) λ m3 qB _ L8=>O7 (O7 (s_end (hR .next _ _ trivial (st L8) ?_ rfl)))
   refine A0 (sW y j go) λ bv hZ=>?_;delta hZ e z hh
   have L8:Led σ qB [_,_,_,(gA,.dict (putK (.int y) (.int j) (fQ go)) m3)] []:=L8
   rw[e]at L8
   exact⟨sh,m1,bv,m3,h1,λ p hp=>(hh p hp).elim (λ e=>e▸⟨G6 j,T7.mpr hj⟩) (h2 p),Z5 h3,A9 z (O1 h4),L8⟩
 ·intro u eW hQ;intros hQ sh m1 go m2 hZ;delta hZ h1 h2 h3 h4 L
  refine Q9 rfl (K7 L rfl λ lA qB L=>aD L rfl (C3 rfl) λ IF L=>?_)
  let LB:List (Addr×Nat×Nat)->List (Addr×PO):=λ lk=>[(x,.inst 731 dx),(dx,.attrs 731 [("grammar",.ref g),("number",C0 i),("shifts",.ref sA),("gotos",.ref gA),("looks",.ref lA)]),(sA,.dict (fQ sh) m1),(gA,.dict (fQ go) m2),(lA,.list (lk.map λ p=>.ref p.1))]
  have rz:=IV au w hs
  refine eY F (l:=(S.getD i aA).iV) (f:=C0) (v:=.ref (As.getD i CP).rd) (λ pre _ B9=>∃lk,(∀p∈lk,1<=p.2.1∧p.2.1<G.rules.length∧p.2.2<2^G.tc)∧lk.map (·.2.1)=pre∧Led σ B9 (LB lk) (We lk)) rfl (D8 rfl (((hA.ext L.ext).at hi).ob.fld _)) (qS ((hA.ext L.ext).at hi).rd rz rfl) ⟨[],λ _ h=>(nomatch h),rfl,L⟩ ?_ ?_
  ·intro pre r post u iU R hl hQ;intros hQ lk hZ;delta hZ k1 k2 L1;intro hR
   have hZ:=P5 hl;delta hZ Hw hp
   have hZ:=au.Pq hs hp;delta hZ r1 r2
   refine A0 (M.ix i r hi hp) λ k hZ=>?_;delta hZ hk e
   have k3:lk.length=pre.length:=(A8 _).symm.trans (C7 List.length k2)
   have LE:=L1.ext _ _ hm
   refine N4 (T0 (D8 rfl (L1.self rfl)) (N9 (L1.get 4 rfl) _) (F9 (bP (F9 (P2 rfl (F9 (J1 rfl (gV LE _) (I9 (oU (I9 (D8 rfl (((hA.ext L1.ext).at hi).ob.fld _)) (p1 rfl))) (p1 rfl)) (ZA P.ok (l:=[(i:Int),(r:Int)]) LE M.kt e (M0 λ b hb=>M0 ?_)))))))))
   have L2:=L1.wG hb (.list [C0 r,C0 k])
   generalize iU.set b _=nZ at L2 ⊢
   refine aW 4 L2 rfl (GV (A9 (X0 k3) (M8 (D1 Hw rz))) (by decide)) λ rA _ L3=>s_end (hR .next _ _ trivial ((L3.ext _ _ No.rd).trans (L.ext _ _ No.rd).symm) ⟨lk++[(b,r,k)],T8 k1 ⟨r1,r2,hk⟩,by rw[C1,k2];rfl,?_⟩ rfl)
   show Led σ rA [_,_,_,_,(lA,.list (List.map _ (lk++[_])))] (List.map _ (lk++[_]))
   rw[C1,C1]
   exact L3
  ·intro u iU hQ;intros hQ lk hZ;delta hZ k1 k2 L
   have k3:lk.length=_:=(A8 _).symm.trans (C7 List.length k2)
   refine Q9 rfl (P2 rfl (aD L rfl (C3 rfl) λ nZ L=>?_))
   exact Q9 rfl (K7 L rfl λ tA rA L=>aD L rfl (C3 rfl) λ FQ L=>s_end ⟨rfl,q x dx FQ ⟨sA,gA,lA,tA,m1,m2,sh,go,lk⟩ L ⟨h1,h2,k1,A9 h3 kl,A9 h4 kl,A9 (X0 k3) rz,k2▸au.Jv hs⟩⟩)
end
section
variable{W:Wd}{n:Nat}{σ C8:PH}{ρ:List PV}{r b:V0}{K:Fl->List PV->PH->Prop}{e c:PE}{i:Nat}{v:PV}
theorem Lp(F:(Nat->PV)->List PV){α:Type}{l:List α}{f:α->PV}{a:Addr}(I:List α->(Nat->PV)->PH->Prop)(HB:ρ=F (lo ρ))(h:pv σ ρ e=some (.ref a))(hv:σ a=some (.list (l.map f)))(hz:(l.map f).length<=2^24)(h0:I [] (lo ρ) σ)
  (hs:∀pre x post u B9 (R:Fl->List PV->PH->Prop),l.reverse=pre++x::post->I pre u B9->(∀fl O5 B9,fl.go->B9 a=σ a->I (pre++[x]) (lo O5) B9->O5=F (lo O5)->R fl O5 B9)->S8 W tb n b ((F u).set i (f x)) B9 R)
  (hk:∀u σ,I l.reverse u σ->S8 W tb n r (F u) σ K):S8 W tb n (.cons (.forR i e b) r) ρ σ K:=
 X4 e h ⟨a,_,rfl,hv,hz,List.map_reverse .. ▸eC (λ pre ρ σ=>ρ=F (lo ρ)∧I pre (lo ρ) σ) ⟨HB,h0⟩ (λ pre x post ρ B9 R e ⟨e',h⟩ k=>e'▸hs pre x post (lo ρ) B9 R e h λ fl O5 B9 g s h e=>k fl _ B9 g s ⟨e,h⟩) λ ρ σ ⟨e',h⟩=>e'▸hk (lo ρ) σ h⟩
theorem OX{α:Type}{l:List α}{f g:α->PV}{ys:α->List PV}{p:α->Bool}{elt:PE}{tg:Nat}{L R:List (Addr×PO)}{Q:PV->PH->Prop}(hL:Led C8 σ L R)(h:pv σ ρ e=some v)(hv:mB σ v (l.map f))(hb:∀x∈l,eH tg (f x)=some (ys x))
  (ht:∀x∈l,∀R:Bool->PH->Prop,R (p x) σ->(wp W tb n c).t (ρ++ys x) σ R)(hs:∀x∈l,p x=true->∀R:PV->PH->Prop,R (g x) σ->(wp W tb n elt).v (ρ++ys x) σ R)(k:∀c B9,Ext σ B9->Led C8 B9 (L++[(c,.list ((l.filter p).map g))]) R->Q (.ref c) B9):(wp W tb n (.comp elt tg e c)).v ρ σ Q:=by
 refine X4 e h ⟨_,hv,comp_map (λ pre acc B9=>B9=σ∧acc=(pre.filter p).map g) ⟨rfl,rfl⟩ (λ pre x post acc B9 R hl Uz hR=>?_) λ acc B9 Uy c hc=>?_⟩
 ·delta Uz h1 h2
  clear h hv;clear k hL;subst h1 h2
  have hx:=(P5 hl).2
  refine⟨ys x,hb x hx,ht x hx _ ?_⟩
  cases e:p x
  ·exact hR none _ (rE _ _) ⟨rfl,by rw[G7,W1,e];exact C7 (List.map g) (C9 _).symm⟩
  ·exact hs x hx e _ (hR (some (g x)) _ (rE _ _) ⟨rfl,by rw[G7,W1,e,C1];rfl⟩)
 ·delta Uy h1 h2
  clear h hb hs ht hv tg ys;subst h1 h2
  exact k c _ (Ext.new hc _) (hL.alloc hc _)
theorem Led.rb{C8 σ:PH}{L:List (Addr×PO)}(h:Led C8 σ L [])(hl:∀p∈L,∃xs,p.2=.list xs){D:Prop}(k:∀τ,Ext C8 τ->Led τ σ L []->(∀x C fs,aS σ x C fs->aS τ x C fs)->D):D:=by
 refine A0 (h.rebase) λ τ hZ=>?_;delta hZ E L' hk
 have no:∀a o,σ a=some o->(∀xs,o≠.list xs)->τ a=some o:=λ a o e n=>hk _ _ e λ m=>by
  refine A0 (D2.mp m) λ p hZ=>?_;generalize hZ.1=hp;clear m;obtain rfl:=hZ.2;try clear hZ
  refine A0 (hl p (C9 L▸hp)) λ xs hx=>?_
  exact n xs (H1 (e.symm.trans ((h.at_ p hp).trans (C7 some hx))))
 exact k τ E L' λ x C fs ⟨dx,h1,h2⟩=>⟨dx,no _ _ h1 (λ _ e=>by cases e),no _ _ h2 λ _ e=>by cases e⟩
end
section
variable{W:Wd}(P:dQ W){n:Nat}{σ:PH}{x g:Addr}{i:Nat}{D:RM}{G:Gr}{Q:PV->PH->Prop}(w:G.Wf)(hG:pZ σ g G)(hD:OP σ x g i D)(hP:Su G D)
include P w hG hD hP
theorem UD(q:∀B9,Ext σ B9->Q .none B9):J9 W (n+2) (.ref 709) [.ref x] σ Q:=by
 have zt:G.tc<=64:=A9 w.tc (A9 w.names (by decide))
 refine P.fn cY 50 rfl (ρ:=[.ref x,.M7,.M7,.M7]) rfl (eY (λ v=>[.ref x,v 1,v 2,v 3]) (l:=D.lk) (f:=λ p=>.ref p.1) (v:=.ref D.lA) (λ _ _ B9=>Ext σ B9) rfl (D8 rfl (hD.ob.fld _)) (qS hD.ll hP.z3 rfl) (.refl σ) ?_ λ u B9 E=>s_end (q B9 E))
 intro pre p post u aK R hl E1 hR
 have hp:=(P5 hl).2
 have hZ:=hP.lk p hp;delta hZ hZ h2 h3
 refine Z1 (H7 (p1 (I8 rfl rfl (I0 (k:=1) (E1 _ _ (hD.lk p hp)) rfl))) (CA (n:=n) P h3 zt λ c W9 E2 hc h=>?_))
 refine Z0 (λ v=>[.ref x,.ref p.1,v 2,v 3]) (l:=X6 p.2.2 G.tc) (f:=C0) (λ _ _ B9=>Ext W9 B9) rfl (qS h (A9 (H4 ..) (by rw[D9];exact zt)) rfl) (.refl W9) ?_ λ u B9 E=>s_end (hR .next _ _ trivial (((E1.trans E2).trans E _ _ hD.ll).trans hD.ll.symm) ((E1.trans E2).trans E) rfl)
 intro Ps t iG u2 Y8 R2 fM E3 bR
 have E:=(E1.trans E2).trans E3
 refine P3 rfl (oR (λ O5 B9=>O5=[.ref x,.ref p.1,C0 t,.none]∧B9=Y8) ?_ λ R hR=>uS (N3 rfl (D8 rfl ((hD.ob.ext E).fld _)) (tZ (E _ _ hD.sh) rfl (fE ..))) ⟨λ _=>K1 (H7 (I9 (D8 rfl ((hD.ob.ext E).fld _)) (I9 (I8 rfl rfl (I0 (k:=0) (E _ _ (hD.lk p hp)) rfl)) (p1 rfl))) (ZQ (n:=n) P (hG.ext E) h2 (s_end (hR _ _ ⟨rfl,rfl⟩)))),λ _=>s_end (hR _ _ ⟨rfl,rfl⟩)⟩)
 intro _ _ hQ;clear E;obtain rfl:=hQ.1;obtain rfl:=hQ.2;try clear hQ
 exact cZ (t:=false) rfl (λ h=>nomatch h) λ _=>O7 (s_end (bR .next _ _ trivial ((E3 _ _ h).trans h.symm) E3 rfl))
theorem Sf(q:∀c B9 (r:List Int),Ext σ B9->σ c=none->r.length=G.tc->(∀z∈r,Cell G.rules.length z)->B9 c=some (.list (r.map .int))->Q (.ref c) B9):J9 W (n+2) (.ref 723) [.ref x] σ Q:=by
 have zt:G.tc<=10:=A9 w.tc w.names
 have Ys:G.tc<=64:=A9 zt (by decide)
 refine P.fn oJ 51 rfl (ρ:=[.ref x,.M7,.M7,.M7]) rfl (K1 (O6 (K7 (Led.start σ) rfl λ ct aK L1=>P2 (D8 (D8 rfl ((hD.ob.ext L1.ext).fld _)) (hG.ext L1.ext).tc) (CE L1 (L1.get 0 rfl) (A9 zt (by decide)) λ c W9 L2=>?_))))
 let F:(Nat->PV)->List PV:=λ v=>[.ref x,.ref c,v 2,v 3]
 let I:List (Addr×PO)->PH->Prop:=λ X B9=>∃r:List Int,r.length=G.tc∧(∀z∈r,Cell G.rules.length z)∧Led σ B9 ([(ct,.list [.int 0]),(c,.list (r.map .int))]++X) []
 have ext:∀{X B9},I X B9->Ext σ B9:=λ⟨_,_,_,L⟩=>L.ext
 have h0:I [] W9:=⟨List.replicate G.tc 0,K8,λ z hz=>.inr (by rw[bH hz];have:=w.pos;lia),by rw[nV];exact L2⟩
 have cell:∀{X:List (Addr×PO)} {B9:PH} {r:V0} {K:Fl->List PV->PH->Prop} {ρ:List PV} {t:Nat} {z:Int} {e:PE},I X B9->t<G.tc->Cell G.rules.length z->pv B9 ρ e=some (.int z)->(∀σ,pv σ ρ (.loc 1)=some (.ref c))->(∀σ,pv σ ρ (.loc 3)=some (C0 t))->(∀B9,I X B9->S8 W tb (n+1) r ρ B9 K)->S8 W tb (n+1) (.cons (.aM (.loc 1) (.loc 3) e) r) ρ B9 K:=λ{X B9 _ _ _ t z _} ⟨r,h1,h2,L⟩ ht hz he hc h3 k=>
  mV 1 L rfl (x:=.int z) he (hc _) (h3 _) (Cp h1 ht) λ S7 _ L=>k S7 ⟨r.set t z,(O9 ..).trans h1,λ y hy=>(aT hy).elim (h2 y) λ e=>e▸hz,VU (C:=λ y=>Led σ S7 ([_,(c,.list y)]++X) []) t z L⟩
 have Vu:∀l:List (Nat×Int),(fQ l).all (λ p=>!jT p.1)=true:=λ l=>G3.mpr λ p hp=>by refine A0 (D2.mp hp) λ q hZ=>?_;clear hp;obtain rfl:=hZ.2;try clear hZ;rfl
 have bz:∀m,(X6 m G.tc).length<=64:=λ m=>A9 (H4 ..) (by rw[D9];exact Ys)
 refine Lp F (l:=D.lk) (f:=λ p=>.ref p.1) (λ _ _ B9=>I [] B9) rfl (D8 rfl ((hD.ob.ext L2.ext).fld _)) (L2.ext _ _ hD.ll) (GV hP.z3 (by decide)) h0 ?_ ?_
 ·intro pre p post u Y8 R hl h3 hR
  have hp:p∈D.lk:=List.mem_reverse.mp (P5 hl).2
  have hZ:=hP.lk p hp;delta hZ r1 r2 r3
  refine Z1 (H7 (p1 (I8 rfl rfl (I0 (k:=1) (ext h3 _ _ (hD.lk p hp)) rfl))) (CA (n:=n) P r3 Ys λ cb bK E4 hc h=>?_))
  let X:List (Addr×PO):=[(cb,.list ((X6 p.2.2 G.tc).map C0))]
  have h4:I X bK:=let⟨r,a,b,L⟩:=h3;⟨r,a,b,L.adopt E4 hc h⟩
  have at_:∀{B9},I X B9->B9 cb=some (.list ((X6 p.2.2 G.tc).map C0)):=λ⟨_,_,_,L⟩=>L.get 2 rfl
  refine Z0 (λ v=>[.ref x,.ref c,.ref p.1,v 3]) (l:=X6 p.2.2 G.tc) (f:=C0) (λ _ _ B9=>I X B9) rfl (qS h (bz _) rfl) h4 ?_ λ u B9 h=>s_end (hR .next _ _ trivial ((ext h _ _ hD.ll).trans (L2.ext _ _ hD.ll).symm) (let⟨r,a,b,L⟩:=h;⟨r,a,b,Led.drop (L:=[_,_]) L⟩) rfl)
  intro Ps t iG u2 cH R2 fM h5 bR
  exact cell h5 (wE (P5 fM).2).1 (.inr ⟨Int.neg_lt_neg (T7.mpr r2),by lia⟩) (xB (I8 rfl rfl (I0 (k:=0) (ext h5 _ _ (hD.lk p hp)) rfl))) (λ _=>rfl) (λ _=>rfl) λ eK h6=>s_end (bR .next _ _ trivial ((at_ h6).trans h.symm) h6 rfl)
 ·intro u Y8 h3
  refine eY F (l:=D.sh) (f:=λ p=>C0 p.1) (v:=.ref D.sA) (λ _ _ B9=>I [] B9) rfl (D8 rfl ((hD.ob.ext (ext h3)).fld _)) (yW (ext h3 _ _ hD.sh) (Vu _) (by rw[G2];rfl) (GV hP.z1 (by decide))) h3 ?_ ?_
  ·intro pre p post u2 bK R hl h4 hR
   have hp:=(P5 hl).2
   refine A0 (Gx (ext h4 _ _ hD.sh) hp) λ v hZ=>?_;delta hZ hv e
   exact cell h4 (hP.sh p hp).1 (hP.sh _ hv).2 (I8 (D8 rfl ((hD.ob.ext (ext h4)).fld _)) rfl e) (λ _=>rfl) (λ _=>rfl) λ cH h5=>s_end (hR .next _ _ trivial ((ext h5 _ _ hD.sh).trans (ext h3 _ _ hD.sh).symm) h5 rfl)
  ·intro u2 bK h4
   refine Z1 (H7 (p1 (D8 rfl ((hD.ob.ext (ext h4)).fld _))) (CA (n:=n) (m:=0) (N:=0) P (by decide) (by decide) λ cb cH E5 hc h=>Z0 F (l:=X6 0 0) (f:=C0) (λ _ _ B9=>I [] B9) rfl (qS h (D7 0) rfl) (let⟨r,a,b,L⟩:=h4;⟨r,a,b,L.grow E5⟩) (λ pre t post _ _ _ hl=>absurd (wE (P5 hl).2).1 (Z8 _)) λ u B9 ⟨r,h1,h2,L⟩=>X7 rfl (q c B9 r L.ext (L.new (c,_) (.tail _ (.head _))) h1 h2 (L.get 1 rfl))))
end
structure Cf where
 s:Nat
 t:Nat
 rs:List Nat
 ch:Int
def OQ(σ:PH)(a:Addr)(c:Cf):Prop:=∃w,aS σ a 637 [("state",C0 c.s),("terminal",C0 c.t),("way",w),("rules",.tup (c.rs.map C0)),("chosen",.int c.ch)]
theorem OQ.ext{σ B9:PH}(E:Ext σ B9){a:Addr}{c:Cf}(h:OQ σ a c):OQ B9 a c:=let⟨w,o⟩:=h;⟨w,o.ext E⟩
def LI(C8 σ:PH)(c:Addr)(l:List Cf):Prop:=∃(τ:PH) (cl:List (Addr×Cf)),Ext C8 τ∧Led τ σ [(c,.list (cl.map λ p=>.ref p.1))] []∧(∀p∈cl,OQ τ p.1 p.2)∧cl.map (·.2)=l
theorem LI.pre{B4 C8 σ:PH}{c:Addr}{l:List Cf}(E:Ext B4 C8)(h:LI C8 σ c l):LI B4 σ c l:=let⟨τ,cl,h1,h2,h3,h4⟩:=h;⟨τ,cl,E.trans h1,h2,h3,h4⟩
theorem LI.ext{C8 σ:PH}{c:Addr}{l:List Cf}(h:LI C8 σ c l):Ext C8 σ:=let⟨_,_,h1,h2,_,_⟩:=h;h1.trans h2.ext
theorem LI.at{C8 σ:PH}{c:Addr}{l:List Cf}(h:LI C8 σ c l):∃xs,σ c=some (.list xs):=let⟨_,_,_,h2,_,_⟩:=h;⟨_,h2.get 0 rfl⟩
structure Sr(G:Gr)(rs:List Nat):Prop where
 z:rs.length<=15
 lt:∀r∈rs,1<=r∧r<G.rules.length
 as:rs.Pairwise (·<·)
def yH(i t:Nat)(rs:List Nat)(sr:Bool)(ch:Int):List Cf:=(if(!rs.isEmpty&&sr)=true then[⟨i,t,rs,ch⟩]else[])++(rs.drop 1).map λ y=>⟨i,t,[rs.getD 0 0,y],ch⟩
def CG(G:Gr)(i:Nat):Nat->List Cf->Prop
 |0,l=>l=[]
 |b+1,l=>∃l' rs sr ch,CG G i b l'∧Sr G rs∧l=l'++yH i b rs sr ch
def CS(G:Gr):Nat->List Cf->Prop
 |0,l=>l=[]
 |k+1,l=>∃l' m,CS G k l'∧CG G k G.tc m∧l=l'++m
theorem ZK{G:Gr}{rs:List Nat}(h:Sr G rs)(i t:Nat)(sr:Bool)(ch:Int):(yH i t rs sr ch).length<=16:=by
 unfold yH
 rw[B0,A8,U7]
 have:=h.z
 split
 ·show 1+_<=_;lia
 ·show 0+_<=_;lia
theorem CG.len{G:Gr}{i:Nat}:∀{b:Nat} {l:List Cf},CG G i b l->l.length<=16*b
 |0,_,h=>X0 (C7 List.length h)
 |b+1,_,⟨l',rs,sr,ch,h,hr,e⟩=>by
  rw[e,B0]
  exact S0 h.len (ZK hr ..)
theorem Su.cj{G:Gr}{D:RM}(h:Su G D)(p:Addr×Nat×Nat->Bool):∃rs:List Nat,(D.lk.filter p).map (λ p=>C0 p.2.1)=rs.map C0∧Sr G rs:=
 ⟨(D.lk.filter p).map (·.2.1),by rw[G2];rfl,by rw[A8];exact A9 (H4 ..) h.z3,λ r hr=>by
  refine A0 (D2.mp hr) λ q hZ=>?_;generalize hZ.1=hq;clear hr;obtain rfl:=hZ.2;try clear hZ
  exact⟨(h.lk q (J5.mp hq).1).1,(h.lk q (J5.mp hq).1).2⟩,h.as.sublist (List.filter_sublist.map _)⟩
theorem LI.new{C8 σ B9:PH}{c a:Addr}{l:List Cf}(h:LI C8 σ c l)(E:Ext σ B9)(ha:σ a=none){o:PO}(h':B9 a=some o){D:Prop}(k:∀τ,Ext C8 τ->τ a=some o->LI τ B9 c l->D):D:=by
 intros h τ hZ;intros hZ cl Q0;delta Q0 h1 h2 h3 h4
 exact(h2.adopt E ha h').keep λ CO E L fZ=>k CO (h1.trans E) (fZ _ (.head _)) ⟨CO,cl,.refl _,L,λ p hp=>(h3 p hp).ext E,h4⟩
section
variable{W:Wd}{n:Nat}{σ:PH}{ρ:List PV}{e:PE}{Q:PV->PH->Prop}{B:Bool->PH->Prop}
theorem Pe{op:Operator}{a b:PE}(h:(wp W tb n (.bin op a b)).v ρ σ λ x B9=>∃b,zI B9 x=some b∧B b B9):(wp W tb n (.bin op a b)).t ρ σ B:=h
theorem Ae{a b:Nat}(q:Q (C0 (a&&&b)) σ):mM .BitAnd σ Q (C0 a) (C0 b):=by show Q (.int (Builtin.bitAnd a b)) σ;rw[rV];exact q
theorem Jy{i:Nat}{a:Addr}{xs:List PV}(h:pv σ ρ (.loc i)=some (.ref a))(ha:σ a=some (.list xs)):pt σ ρ (.loc i)=some (!xs.isEmpty):=by
 show Option.bind (pv σ ρ (.loc i)) (zI σ)=_
 rw[h]
 show iI _ _ (σ a)=_
 rw[ha];rfl
theorem Ja{a:Addr}{xs:List PV}(h:pv σ ρ e=some (.ref a))(ha:σ a=some (.list xs))(hz:xs.length<=2^24)(k:∀c,σ c=none->Q (.ref c) (σ.set c (.list (xs.drop 1)))):(wp W tb n (.wP e (.int 1) .absent)).v ρ σ Q:=
 X4 e h ⟨xs,some 1,none,.inl ha,rfl,rfl,rfl,rfl,hz,by rw[show fD xs (some 1) none=xs.drop 1 from C7 (List.drop 1) (hX (D7 _))];exact k⟩
end
section
variable{W:Wd}(P:dQ W){n:Nat}{σ C8:PH}{x g:Addr}{i:Nat}{D:RM}{G:Gr}{Q:PV->PH->Prop}
include P
theorem RT{m:Nat}{c:Addr}{l:List Cf}(I:LI C8 σ c l)(hb:l.length<=1000)(cf:Cf){w:Str}(q:∀B9,LI C8 B9 c (l++[cf])->Q .none B9):J9 W (n+2) (.ref 637) [C0 cf.s,C0 cf.t,.str w,.tup (cf.rs.map C0),.int cf.ch] σ λ v B9=>J9 W m (.builtin "list.append") [.ref c,v] B9 Q:=by
 intros I τ hZ;intros hZ cl Q0;delta Q0 h1 h2 h3 h4
 refine tV P nF 44 7 rfl rfl (O5:=[C0 cf.s,C0 cf.t,.str w,.tup (cf.rs.map C0),.int cf.ch]) (λ _=>rfl) (λ _=>rfl) λ y aK E _ O=>?_
 refine(h2.grow E).rb (λ p hp=>⟨_,C7 Prod.snd (D5.mp hp)⟩) λ CO E' L hO=>aW 0 L rfl (GV (show cl.length<=1000 by rw[<-h4,A8]at hb;exact hb) (by decide)) λ W9 _ L=>q W9 ⟨CO,cl++[(y,cf)],h1.trans E',?_,T8 (λ p hp=>(h3 p hp).ext E') ⟨_,hO _ _ _ O⟩,by rw[C1,h4];rfl⟩
 rw[C1];exact L
end
section
variable{W:Wd}(P:dQ W){n:Nat}{σ:PH}{x g:Addr}{i:Nat}{D:RM}{G:Gr}{Q:PV->PH->Prop}(w:G.Wf)(hG:pZ σ g G)(hD:OP σ x g i D)(hP:Su G D)
include P w hG hD hP
theorem Mo{ra:Addr}{r:List Int}(hr:σ ra=some (.list (r.map .int)))(zr:r.length=G.tc)(q:∀c B9 l,LI σ B9 c l->CG G i G.tc l->Q (.ref c) B9):J9 W (n+3) (.ref 728) [.ref x,.ref ra] σ Q:=by
 have zt:G.tc<=10:=A9 w.tc w.names
 refine P.fn fR 52 rfl (ρ:=[.ref x,.ref ra,.M7,.M7,.M7,.M7,.M7]) rfl (K1 (K7 (Led.start σ) rfl λ c aK L1=>?_))
 let F:(Nat->PV)->List PV:=λ v=>[.ref x,.ref ra,.ref c,v 3,v 4,v 5,v 6]
 refine Z1 (H7 (p1 (D8 (D8 rfl ((hD.ob.ext L1.ext).fld _)) (hG.ext L1.ext).tc)) (aP (Z0 F (λ pre _ B9=>∃l,LI σ B9 c l∧CG G i pre.length l) rfl (fH (A9 zt (by decide))) ⟨[],⟨σ,[],.refl σ,L1,λ _ h=>(nomatch h),rfl⟩,rfl⟩ ?_ λ u B9 ⟨l,I,C⟩=>X7 rfl (q c B9 l I (by rw[D9]at C;exact C)))))
 intro pre t post u W9 R hl hQ;intros hQ l hZ;delta hZ I C;intro hR
 have hZ:=P9 hl;delta hZ hp ht
 have e1:(pre++[t]).length=pre.length+1:=B0
 have bz:pre.length<10:=by rw[hp,D9];exact D1 ht zt
 rw[e1]at hR
 have lz:=C.len
 have hp:pre.length=t:=by rw[hp,D9]
 rw[hp]at C hR bz lz
 clear hp e1 hl
 have E:=I.ext
 refine K1 (OX (l:=D.lk) (f:=λ p=>.ref p.1) (g:=λ p=>C0 p.2.1) (p:=λ p=>decide (((p.2.2&&&2^t:Nat):Int)≠0)) (Led.start W9) (D8 rfl ((hD.ob.ext E).fld _)) (qS (E _ _ hD.ll) hP.z3 rfl) (λ _ _=>rfl)
  (λ p hp R hR=>Pe (O6 (P2 (I8 rfl rfl (I0 (k:=1) (E _ _ (hD.lk p hp)) rfl)) (rC rfl rfl (sX t (Gr.IJ ht zt) (Ae ⟨_,rfl,hR⟩)))))) (λ p hp _ R hR=>P2 (I8 rfl rfl (I0 (k:=0) (E _ _ (hD.lk p hp)) rfl)) hR) λ ca Y8 E3 L3=>?_)
 refine I.new E3 (L3.new _ (.head _)) (L3.get 0 rfl) λ τ E4 Rb I=>?_
 refine A0 (hP.cj λ p=>decide (((p.2.2&&&2^t:Nat):Int)≠0)) λ rs hZ=>?_;delta hZ e hb
 rw[e]at Rb
 clear e L3 E3 E
 have ob:∀{B9},Ext τ B9->aS B9 x 731 _:=λ E=>hD.ob.ext (E4.trans E)
 have cell:∀{B9},Ext τ B9->gD B9 (.ref ra) (C0 t)=some (.int (r.getD t 0)):=λ E=>W8 0 ((E4.trans E) _ _ hr) (zr.symm▸ht)
 have hz:=hb.z
 refine oR (λ O5 B9=>∃sr:Bool,O5=[.ref x,.ref ra,.ref c,C0 t,.ref ca,u 5,u 6]∧LI τ B9 c (l++if(!rs.isEmpty&&sr)=true then[(⟨i,t,rs,r.getD t 0⟩:Cf)]else[])) ?_ λ R1 yE=>uS (jP (Jy rfl (I.ext _ _ Rb)) (N3 rfl (D8 rfl ((ob I.ext).fld _)) (tZ ((E4.trans I.ext) _ _ hD.sh) rfl (fE ..)))) ⟨λ h=>?_,λ h=>s_end (yE _ _ ⟨_,rfl,by rw[List.isEmpty_map]at h;rw[h];exact(C9 l).symm▸I⟩)⟩
 ·intro _ bK hQ;intros hQ sr hZ;obtain rfl:=hZ.1;delta hZ hZ I
  have z1:(l++if(!rs.isEmpty&&sr)=true then[(⟨i,t,rs,r.getD t 0⟩:Cf)]else[]).length<=161:=by
   rw[B0]
   split
   ·exact O1 (A9 lz (by lia))
   ·exact A9 lz (by lia)
  have C':∀l',l'=(l++if(!rs.isEmpty&&sr)=true then[(⟨i,t,rs,r.getD t 0⟩:Cf)]else[])++(rs.drop 1).map (λ y=>(⟨i,t,[rs.getD 0 0,y],r.getD t 0⟩:Cf))->CG G i (t+1) l':=λ l' e=>⟨l,rs,sr,r.getD t 0,C,hb,by rw[e,C6];rfl⟩
  generalize (l++if(!rs.isEmpty&&sr)=true then[(⟨i,t,rs,r.getD t 0⟩:Cf)]else[])=l1 at I z1 C'
  refine Z1 (Ja rfl (I.ext _ _ Rb) (GV hz (by decide)) λ cs Bg=>?_)
  refine I.new (o:=.list ((rs.map C0).drop 1)) (Ext.new Bg _) Bg (PH.J7 ..) λ Ol E5 Bh I=>?_
  generalize bK.set cs _=cH at I ⊢
  rw[<-List.map_drop]at Bh
  have dz:(rs.drop 1).length<=15:=by rw[U7];exact A9 (Nat.sub_le ..) hz
  refine Z0 (λ v=>[.ref x,.ref ra,.ref c,C0 t,.ref ca,v 5,v 6]) (l:=rs.drop 1) (f:=C0) (λ p2 _ B9=>LI Ol B9 c (l1++p2.map (λ y=>(⟨i,t,[rs.getD 0 0,y],r.getD t 0⟩:Cf)))) rfl (qS (I.ext _ _ Bh) dz rfl) ((C9 l1).symm▸I) ?_ λ u B9 I=>s_end (hR .next _ _ trivial trivial ⟨_,I.pre (E4.trans E5),C' _ rfl⟩ rfl)
  have I5:=I.ext
  clear I C' C
  intro p2 y iG u2 eK R2 fM I bR
  have hZ:=P5 fM;delta hZ Np hy
  rw[C1,<-C6]at bR
  have hy:=kI hy
  have h0:=W5 (l:=rs) (i:=0) 0 (List.length_pos_of_mem hy)
  have E:=I.ext
  refine P3 (oU (I9 (I8 rfl rfl (I0 (k:=0) (E _ _ (E5 _ _ Rb)) (V5 h0))) (p1 rfl))) (N4 (T0 rfl (N9 I.at.choose_spec _) (F9 (T5 (F9 (P2 (D8 rfl ((ob (E5.trans E)).fld _)) (F9 (P2 rfl (F9 (P2 rfl (F9 (P2 rfl (F9 (P2 (I8 rfl rfl (cell (E5.trans E))) (M0 ?_)))))))))))))))
  exact RT (n:=n) P I (by rw[B0,A8];lia) ⟨i,t,[rs.getD 0 0,y],r.getD t 0⟩ λ B9 I=>s_end (bR .next _ _ trivial ((I.ext _ _ Bh).trans (I5 _ _ Bh).symm) I rfl)
 ·exact N4 (T0 rfl (N9 I.at.choose_spec _) (F9 (T5 (F9 (P2 (D8 rfl ((ob I.ext).fld _)) (F9 (P2 rfl (F9 (P2 rfl (F9 (H7 (p1 rfl) (mN (I.ext _ _ Rb) (GV hz (by decide)) (F9 (P2 (I8 rfl rfl (cell I.ext)) (M0 (RT (n:=n) P I (by lia) ⟨i,t,rs,r.getD t 0⟩ λ B9 I=>s_end (yE _ _ ⟨_,rfl,by rw[List.isEmpty_map]at h;rw[h];exact I⟩)))))))))))))))))
end
section
variable{W:Wd}{n:Nat}{σ:PH}{ρ:List PV}{a b c e:PE}{B:Bool->PH->Prop}{Q:PV->PH->Prop}
theorem Jg{op CQ:CmpOp}{x y z:PV}{r r':Bool}(ha:pv σ ρ a=some x)(hb:pv σ ρ b=some y)(hc:pv σ ρ c=some z)(h1:iP σ op x y=some r)(h2:iP σ CQ y z=some r')(k:B (r&&r') σ):(wp W tb n (.KE op CQ a b c)).t ρ σ B:=
 X4 (K:=λ x B4=>(wp W tb n b).v ρ B4 λ y H6=>∃r,iP H6 op x y=some r∧match r with
  |false=>∃b,zI H6 (.bool false)=some b∧B b H6
  |true=>(wp W tb n c).v ρ H6 λ z R9=>∃r,iP R9 CQ y z=some r∧∃b,zI R9 (.bool r)=some b∧B b R9) a ha (X4 b hb ⟨r,h1,by
   clear h1;cases r
   ·exact⟨_,rfl,k⟩
   ·exact X4 c hc ⟨r',h2,_,rfl,k⟩⟩)
theorem GM{z:Int}(h:pv σ ρ e=some (.int (-z))):pv σ ρ (.neg e)=some (.int z):=(xB h).trans (by rw[Int.neg_neg])
theorem Pr{t:Bool}(h:pt σ ρ a=some t)(h':t=false->∃t',pt σ ρ b=some t'):∃t',pt σ ρ (.or a b)=some t':=by
 cases t
 ·exact let⟨t',e⟩:=h' rfl;⟨t',MN h e⟩
 ·exact⟨true,MN h rfl⟩
theorem RL(hW:W.Ok){a:Addr}{l:List (Nat×Int)}{m k:Nat}{d:Int}(h:σ a=some (.dict (fQ l) m))(q:Q (.int ((l.lookup k).getD d)) σ):J9 W n (.builtin "dict.get") [.ref a,C0 k,.int d] σ Q:=
 RN hW h (fE ..) (by rw[uV];cases e:l.lookup k<;>rw[e]at q<;>exact q)
end
section
variable{W:Wd}(P:dQ W){n:Nat}{σ:PH}{G:Gr}{Q:PV->PH->Prop}(w:G.Wf){ra:Addr}{r:List Int}(hr:σ ra=some (.list (r.map .int)))(zr:r.length=G.tc)(cr:∀z∈r,Cell G.rules.length z)
include P w hr zr cr
theorem UH(q:∀B9 (b:Nat),Ext σ B9->b<G.rules.length->Q (C0 b) B9):J9 W (n+1) (.ref 742) [.ref ra] σ Q:=by
 have zt:r.length<=10:=zr▸A9 w.tc w.names
 refine P.fn tK 53 rfl (ρ:=[.ref ra,.M7,.M7,.M7,.M7]) rfl (cZ (N3 (I8 rfl rfl (W8 0 hr (i:=1) (zr.symm▸D1 (by decide) w.t3))) rfl rfl) (λ _=>qR (P2 rfl (q σ 0 (.refl σ) w.pos))) λ _=>O7 (K1 (dR (Led.start σ) λ c aK L1=>?_)))
 refine eY (λ v=>[.ref ra,.ref c,v 2,v 3,v 4]) (l:=r) (f:=.int) (v:=.ref ra) (λ pre _ B9=>∃kvs m,Led σ B9 [(c,.dict (fQ kvs) m)] []∧(∀p∈kvs,p.1<G.rules.length)∧kvs.length<=pre.length) rfl rfl (qS (L1.ext _ _ hr) zt rfl) ⟨[],0,L1,λ _ h=>(nomatch h),D7 _⟩ ?_ ?_
 ·intro pre z post u W9 R hl hQ;intros hQ kvs m hZ;delta hZ L k1 k2;intro hR
  have hZ:=P5 hl;delta hZ hp hz
  have st:∀{B9:PH} {L R:List (Addr×PO)},Led σ B9 L R->M9 aK (.ref ra) B9:=λ h=>(h.ext _ _ hr).trans (L1.ext _ _ hr).symm
  rw[B0]at hR
  refine iF (Jg rfl rfl rfl rfl rfl ⟨λ ht=>?_,λ _=>O7 (s_end (hR .next _ _ trivial (st L) ⟨kvs,m,L,k1,Z5 k2⟩ rfl))⟩)
  have neg:z<0:=D0 (F0.mp ht).2
  refine A0 (Int.exists_eq_neg_ofNat (Int.le_of_lt neg)) λ k hZ=>?_;clear hl ht;obtain rfl:=hZ
  have hk:k<G.rules.length:=by rcases cr _ hz with h|h<;>lia
  refine zR (O6 (J1 rfl (gV (L.get 0 rfl) _) (I9 (GM rfl) (p1 rfl)) (RL P.ok (L.get 0 rfl) (P2 rfl (P2 rfl (P2 (GM rfl) (OV 0 L rfl rfl (fE ..) ?_ λ m' Y8 _ L3=>?_)))))))
  ·rw[A8];exact H8 (A9 k2 (M8 hp)) (H8 zt (by decide))
  ·refine A0 (sW k ((kvs.lookup k).getD 0+1) kvs) λ Wi hZ=>?_;delta hZ e h1 h2
   have L3:Led σ Y8 [(c,.dict (putK (.int k) (.int ((kvs.lookup k).getD 0+1)) (fQ kvs)) m')] []:=L3
   rw[e]at L3
   exact O7 (s_end (hR .next _ _ trivial (st L3) ⟨Wi,m',L3,λ p hp=>(h2 p hp).elim (λ e=>e▸hk) (k1 p),A9 h1 (O1 k2)⟩ rfl))
 ·intro u W9 hQ;intros hQ kvs m hZ;delta hZ L k1 k2
  refine P3 rfl (Z1 (H7 (p1 rfl) (fN P.ok (L.get 0 rfl) (ns:=kvs.map (·.1)) (by rw[G2,G2];rfl) (by rw[A8];exact H8 (A9 k2 zt) (by decide)) λ cs Bg=>?_)))
  have L2:=L.alloc Bg (.list ((dT (kvs.map (·.1))).map C0))
  generalize W9.set cs _=Y8 at L2 ⊢
  have sb:∀{y},y∈kvs.map (·.1)->∃v,gD Y8 (.ref c) (C0 y)=some (.int v):=λ h=>by
   refine A0 (D2.mp h) λ p hZ=>?_;generalize hZ.1=hp;obtain rfl:=hZ.2;try clear hZ
   refine A0 (Gx (L2.get 0 rfl) hp) λ v hZ=>?_;delta hZ hZ e
   exact⟨v,e⟩
  refine Z0 (λ v=>[.ref ra,.ref c,v 2,v 3,v 4]) (l:=dT (kvs.map (·.1))) (f:=C0) (λ _ v B9=>B9=Y8∧∃b,v 3=C0 b∧(b=0∨b∈kvs.map (·.1))) rfl (qS (L2.get 1 rfl) (by rw[(N8 _).length_eq,A8];exact A9 k2 zt) rfl) ⟨rfl,0,rfl,.inl rfl⟩ ?_ λ u B9 ⟨e,b,e3,hb⟩=>X7 (rH e3 rfl) (q B9 b (e▸L2.ext) (hb.elim (λ h=>h▸w.pos) λ h=>by refine A0 (D2.mp h) λ p hZ=>?_;generalize hZ.1=hp;obtain rfl:=hZ.2;try clear hZ;exact k1 p hp))
  intro pre y post u bK R hl hQ;generalize hQ.1=e4;refine A0 hQ.2 λ b Q0=>?_;delta Q0 e3 hb;try clear hQ;intro hR
  clear L L1 L2 P cr Bg hr k1 k2 m q w zr zt aK W9;subst e4
  have hy:=(N8 _).mem_iff.mp (P5 hl).2
  refine A0 (sb hy) λ v1 s1=>?_
  obtain⟨t,ht⟩:∃t,pt bK [.ref ra,.ref c,u 2,u 3,C0 y] (.or (.cmp .Eq (.loc 3) (.int 0)) (.cmp .Gt (.sub (.loc 1) (.loc 4)) (.sub (.loc 1) (.loc 3))))=some t:=Pr (N3 (b:=decide ((b:Int)=0)) (rH e3 rfl) rfl rfl) (λ h=>by
   refine A0 (sb (hb.resolve_left λ e=>K6 h (C7 Int.ofNat e))) λ v2 s2=>?_
   exact⟨_,N3 (I8 rfl rfl s1) (I8 rfl (rH e3 rfl) s2) rfl⟩)
  exact cZ ht (λ _=>P3 rfl (O7 (s_end (hR .next _ _ trivial rfl ⟨rfl,y,rfl,.inr hy⟩ rfl)))) λ _=>O7 (s_end (hR .next _ _ trivial rfl ⟨rfl,b,e3,hb⟩ rfl))
theorem UB{b:Nat}(q:∀c B9 (r':List Int),Ext σ B9->σ c=none->r'.length=G.tc->(∀z∈r',Cell G.rules.length z)->B9 c=some (.list (r'.map .int))->Q (.ref c) B9):J9 W (n+1) (.ref 747) [.ref ra,C0 b] σ Q:=by
 have zt:r.length<=10:=zr▸A9 w.tc w.names
 refine P.fn EC 54 rfl (ρ:=[.ref ra,C0 b]) rfl (W3 (gS (l:=r) (f:=.int) (g:=λ z=>.int (if z= -(b:Int)then 0 else z)) (Led.start σ) rfl (qS hr zt rfl) (λ _ _=>rfl) (λ z _ R hR=>VI (t:=decide (z= -(b:Int))) (N3 rfl (xB rfl) rfl) ?_) λ c B9 E L=>q c B9 (r.map λ z=>if z= -(b:Int)then 0 else z) E (L.new _ (.head _)) ((A8 ..).trans zr) (λ y hy=>?_) (by rw[G2];exact L.get 0 rfl)))
 ·by_cases e:z= -(b:Int)
  ·rw[F7 e]at hR;rw[H3 e];exact P2 rfl hR
  ·rw[G0 e]at hR;rw[J8 e];exact P2 rfl hR
 ·refine A0 (D2.mp hy) λ z hZ=>?_;generalize hZ.1=hz;clear hy;obtain rfl:=hZ.2;try clear hZ
  show Cell _ (if _ then _ else _)
  split
  ·exact .inr (by have:=w.pos;lia)
  ·exact cr z hz
end
structure Aq where
 g:Addr
 nm:Addr
 lf:Addr
 le:Addr
 be:Addr
 nb:Addr
 rl:Addr
 gl:Addr
 dl:Addr
 cl:Addr
 sl:Addr
abbrev Vj(A:Aq)(tc:Nat):List (String×PV):=[("names",.ref A.nm),("terminal_count",C0 tc),("lefts",.ref A.lf),("lengths",.ref A.le),("befores",.ref A.be),("defaults",.ref A.dl),("numbers",.ref A.nb),("grammar",.ref A.g),("rows",.ref A.rl),("gotos",.ref A.gl),("conflicts",.ref A.cl),("settled",.ref A.sl),("mode",.str (Str.ofString "lalr"))]
abbrev oE:Rl:=⟨0,[]⟩
abbrev Kl(G:Gr):List PV:=(List.range G.rules.length).map λ i=>C0 (G.rules.getD i oE).left
section
variable{W:Wd}(P:dQ W){n:Nat}{σ C8:PH}{g:Addr}{G:Gr}{Q:PV->PH->Prop}(w:G.Wf)
include P w
theorem UI{x dx nm lf le be:Addr}(hn:C8 nm=some (.list (G.names.map .str)))(L:Led C8 σ [(x,.inst 679 dx),(dx,.attrs 679 [])] [])
  (q:∀B9 d nb es m,Led C8 B9 [(x,.inst 679 dx),(dx,.attrs 679 [("names",.ref nm),("terminal_count",C0 G.tc),("lefts",.ref lf),("lengths",.ref le),("befores",.ref be),("defaults",.ref d),("numbers",.ref nb)]),(d,.list []),(nb,.dict es m)] []->Q .none B9):US W (n+1) (.ref 522) [.ref x,.ref nm,C0 G.tc,.ref lf,.ref le,.ref be] σ Q:=by
 refine P.Ui qP 41 rfl (ρ:=[.ref x,.ref nm,C0 G.tc,.ref lf,.ref le,.ref be,.M7]) rfl ?_
 have zt:=A9 w.tc w.names
 have cx:x≠dx:=λ e=>(N7.mp L.nd).1 (e▸.head _)
 refine tB (C:=679) (dx:=dx) rfl cx 5 _ rfl (L.get 0 rfl) (L.get 1 rfl) ?_
 have L:=L.set 1 rfl (.attrs 679 [("names",.ref nm),("terminal_count",C0 G.tc),("lefts",.ref lf),("lengths",.ref le),("befores",.ref be)])
 show S8 W tb n _ _ (σ.set dx (.attrs 679 [("names",.ref nm),("terminal_count",C0 G.tc),("lefts",.ref lf),("lengths",.ref le),("befores",.ref be)])) _
 generalize σ.set dx _=cH at L ⊢
 refine Q9 rfl (K7 L rfl λ d eK L=>aD L rfl (C3 rfl) λ eW L=>?_)
 refine Q9 rfl (dR L λ nb qB L=>aD L rfl (C3 rfl) λ IF L=>?_)
 refine Z1 (H7 (p1 rfl) (aP (Z0 (λ v=>[.ref x,.ref nm,C0 G.tc,.ref lf,.ref le,.ref be,v 6]) (λ pre _ B9=>∃es m,es.all (λ p=>jT p.1)=true∧es.length<=pre.length∧Led C8 B9 [(x,.inst 679 dx),(dx,.attrs 679 [("names",.ref nm),("terminal_count",C0 G.tc),("lefts",.ref lf),("lengths",.ref le),("befores",.ref be),("defaults",.ref d),("numbers",.ref nb)]),(d,PO.list []),(nb,.dict es m)] []) rfl (fH (A9 zt (by decide))) ⟨[],0,rfl,D7 _,L⟩ ?_ λ u B9 ⟨es,m,_,_,L⟩=>s_end (q B9 d nb es m L))))
 intro pre t post u iU R hl hQ;intros hQ es m hZ;delta hZ k1 k2 L;intro hR
 have hZ:=P9 hl;delta hZ hp ht
 rw[B0]at hR
 exact rF 3 L rfl (x:=C0 t) rfl (D8 rfl (L.self rfl)) (I8 rfl rfl (W8 (Str.ofString "") (L.ext _ _ hn) (D1 ht w.tc))) (q:=.str (G.names.getD t (Str.ofString ""))) rfl k1 (H8 k2 (by rw[hp,D9];exact D1 ht (A9 zt (by decide)))) λ m' nZ _ L=>s_end (hR .next _ _ trivial trivial ⟨_,m',tM k1 rfl,A9 tL (O1 k2),L⟩ rfl)
structure fO where
 rows:List (Addr×List Int)
 QU:List (Addr×Nat×List (Nat×Int))
 YZ:List Nat
 cl:List (Addr×Cf)
end
structure DL(G:Gr)(τ:PH)(k:Nat)(D:fO):Prop where
 r1:D.rows.length=k
 r2:∀p∈D.rows,τ p.1=some (.list (p.2.map .int))∧p.2.length=G.tc∧∀z∈p.2,Cell G.rules.length z
 g1:D.QU.length=k
 g2:∀p∈D.QU,τ p.1=some (.dict (fQ p.2.2) p.2.1)∧∀q∈p.2.2,0<=q.2∧q.2<32768
 d1:D.YZ.length=k
 d2:∀b∈D.YZ,b<G.rules.length
 c1:D.cl.length<=160*k
 c2:∀p∈D.cl,OQ τ p.1 p.2
 cs:CS G k (D.cl.map (·.2))
theorem DL.ext{G:Gr}{τ CO:PH}{k:Nat}{D:fO}(E:Ext τ CO)(h:DL G τ k D):DL G CO k D:=
 ⟨h.r1,λ p hp=>⟨E _ _ (h.r2 p hp).1,(h.r2 p hp).2,(h.r2 p hp).3⟩,h.g1,λ p hp=>⟨E _ _ (h.g2 p hp).1,(h.g2 p hp).2⟩,h.d1,h.d2,h.c1,λ p hp=>(h.c2 p hp).ext E,h.cs⟩
abbrev Gw(c4 c5 c6 c7 c8:Addr)(D:fO):List (Addr×PO):=[(c4,.list (D.rows.map λ p=>.ref p.1)),(c5,.list (D.QU.map λ p=>.ref p.1)),(c6,.list (D.YZ.map C0)),(c7,.list (D.cl.map λ p=>.ref p.1)),(c8,.list [])]
structure wI(σ:PH)(T:Addr)(A:Aq)(G:Gr)(k:Nat)(D:fO):Prop where
 ob:aS σ T 679 (Vj A G.tc)
 nm:σ A.nm=some (.list (G.names.map .str))
 lf:σ A.lf=some (.list (Kl G))
 rl:σ A.rl=some (.list (D.rows.map λ p=>.ref p.1))
 gl:σ A.gl=some (.list (D.QU.map λ p=>.ref p.1))
 dl:σ A.dl=some (.list (D.YZ.map C0))
 cl:σ A.cl=some (.list (D.cl.map λ p=>.ref p.1))
 sl:σ A.sl=some (.list [])
 p:DL G σ k D
theorem wI.ext{σ B9:PH}(E:Ext σ B9){T:Addr}{A:Aq}{G:Gr}{k:Nat}{D:fO}(h:wI σ T A G k D):wI B9 T A G k D:=⟨h.ob.ext E,E _ _ h.nm,E _ _ h.lf,E _ _ h.rl,E _ _ h.gl,E _ _ h.dl,E _ _ h.cl,E _ _ h.sl,h.p.ext E⟩
section
variable{W:Wd}(P:dQ W){n:Nat}{σ:PH}{g:Addr}{G:Gr}{Q:PV->PH->Prop}(w:G.Wf)(hG:pZ σ g G)
theorem LJ{ρ:List PV}{K:Fl->List PV->PH->Prop}{e:PE}{i:Nat}(h:(wp W tb n e).v ρ σ λ x B4=>K .next (ρ.set i x) B4):ws W tb n (.asg i e) ρ σ K:=h
include P w hG
theorem ZW{rl gl dl cl sl:Addr}(q:∀T nm lf le be nb B9,Ext σ B9->aS B9 T 679 (Vj ⟨g,nm,lf,le,be,nb,rl,gl,dl,cl,sl⟩ G.tc)->B9 nm=some (.list (G.names.map .str))->B9 lf=some (.list (Kl G))->Q (.ref T) B9):J9 W (n+3) (.ref 679) [.ref g,.ref rl,.ref gl,.ref dl,.ref cl,.ref sl,.str (Str.ofString "lalr")] σ Q:=by
 refine A0 (hG.names) λ nm hZ=>?_;delta hZ n1 n2
 refine ee2.e (zT hG w) λ ru ra hZ=>?_;delta hZ r1 r2 r3 r4 r5
 refine P.cls 8 rfl λ x dx ne hx Nt=>P.wH rfl ?_
 have L:Led σ ((σ.set dx (.attrs 679 [])).set x (.inst 679 dx)) [(x,.inst 679 dx),(dx,.attrs 679 [])] []:=by
  have h1:Led σ _ [(dx,.attrs 679 [])] []:=(Led.start σ).alloc Nt (.attrs 679 [])
  exact h1.add (c:=x) (by rw[PH.U0 _ _ ne];exact hx) (.inst 679 dx) (X:=[]) (Y:=[(dx,.attrs 679 [])]) (L':=[(x,.inst 679 dx),(dx,.attrs 679 [])]) (R':=[]) rfl rfl
 generalize (σ.set dx _).set x _=aK at L ⊢
 have it:=λ{B9} (E:Ext σ B9)=>V6 (σ:=B9) (E _ _ (show σ ru=some (.list ((List.range G.rules.length).map λ i=>.ref (ra.getD i 0))) by rw[r2,fG,r3])) (by rw[A8,D9];exact A9 w.rules (by decide))
 have Vq:∀{B9} (E:Ext σ B9) i,i∈List.range G.rules.length->aB B9 (ra.getD i 0) i (G.rules.getD i oE):=λ E i hi=>by
  refine A0 (r5 i (N1.mp hi)) λ r hZ=>?_;delta hZ e hZ h
  rw[show G.rules.getD i oE=r from by rw[C2,e];rfl]
  exact h.ext E
 refine LJ (gS (l:=List.range G.rules.length) (f:=λ i=>.ref (ra.getD i 0)) (g:=λ i=>C0 (G.rules.getD i oE).left) L (D8 rfl (U8 L.ext r1)) (it L.ext) (λ _ _=>rfl) (λ i hi R hR=>P2 (D8 rfl (Vq L.ext i hi).left) hR) λ lf W9 E2 L=>⟨rfl,?_⟩)
 refine LJ (gS (l:=List.range G.rules.length) (f:=λ i=>.ref (ra.getD i 0)) (g:=λ i=>C0 (G.rules.getD i oE).right.length) L (D8 rfl (U8 L.ext r1)) (it L.ext) (λ _ _=>rfl) (λ i hi R hR=>P2 (V8 (D8 rfl (Vq L.ext i hi).right) (pU (A8 ..))) hR) λ le Y8 E3 L=>⟨rfl,?_⟩)
 refine LJ (gS (l:=List.range G.rules.length) (f:=λ i=>.ref (ra.getD i 0)) (g:=λ i=>.int 0) L (D8 rfl (U8 L.ext r1)) (it L.ext) (λ _ _=>rfl) (λ i hi R hR=>let⟨_,o⟩:=Vq L.ext i hi;P2 (D8 rfl (o.fld _)) hR) λ be bK E4 L=>⟨rfl,?_⟩)
 refine L.fz λ τ E L fZ=>⟨x,dx,rfl,L.get 0 rfl,F9 (P2 (D8 rfl (U8 (E.trans L.ext) n1)) (F9 (P2 (D8 rfl (hG.ext (E.trans L.ext)).tc) (F9 (P2 rfl (F9 (P2 rfl (F9 (P2 rfl (M0 (UI P w (E _ _ n2) L λ cH d nb es m L=>?_)))))))))))⟩
 have cx:x≠dx:=ne
 refine tB (C:=679) (dx:=dx) rfl cx 7 _ rfl (L.get 0 rfl) (L.get 1 rfl) ?_
 have L:=L.set 1 rfl (.attrs 679 (Vj ⟨g,nm,lf,le,be,nb,rl,gl,dl,cl,sl⟩ G.tc))
 exact s_end ⟨rfl,q x nm lf le be nb _ (E.trans L.ext) (L.obj 0 1 rfl rfl) (L.ext _ _ (E _ _ n2)) (L.ext _ _ (fZ _ (.head _)))⟩
end
theorem DL.add{G:Gr}{τ CO:PH}{k:Nat}{D:fO}(E:Ext τ CO)(h:DL G τ k D){r gA:Addr}{rr:List Int}{m b:Nat}{go:List (Nat×Int)}{cl:List (Addr×Cf)}(h1:CO r=some (.list (rr.map .int)))(h2:rr.length=G.tc)(h3:∀z∈rr,Cell G.rules.length z)
  (h4:CO gA=some (.dict (fQ go) m))(h5:∀q∈go,0<=q.2∧q.2<32768)(h6:b<G.rules.length)(h7:cl.length<=160)(h8:∀p∈cl,OQ CO p.1 p.2)(h9:CG G k G.tc (cl.map (·.2))):DL G CO (k+1) ⟨D.rows++[(r,rr)],D.QU++[(gA,m,go)],D.YZ++[b],D.cl++cl⟩:=by
 have h:=h.ext E
 refine⟨by rw[B0,h.r1];rfl,T8 h.r2 ⟨h1,h2,h3⟩,by rw[B0,h.g1];rfl,T8 h.g2 ⟨h4,h5⟩,by rw[B0,h.d1];rfl,T8 h.d2 h6,?_,λ p hp=>(G8.mp hp).elim (h.c2 p) (h8 p),⟨_,_,h.cs,h9,C1⟩⟩
 rw[B0];exact S0 h.c1 h7
theorem Bt{c4 c5 c6 c7 c8:Addr}{l4 l5 l6 l7 l8:List PV}:∀p∈[(c4,PO.list l4),(c5,.list l5),(c6,.list l6),(c7,.list l7),(c8,.list l8)],∃xs,p.2=.list xs:=by
 intro p hp
 rcases F8.mp hp with rfl|hp;exact⟨_,rfl⟩
 rcases F8.mp hp with rfl|hp;exact⟨_,rfl⟩
 rcases F8.mp hp with rfl|hp;exact⟨_,rfl⟩
 rcases F8.mp hp with rfl|hp;exact⟨_,rfl⟩
 exact⟨_,C7 Prod.snd (D5.mp hp)⟩
section
variable{W:Wd}(P:dQ W){n:Nat}{σ:PH}{g a t:Addr}{As:List SA}{S:List St}{G:Gr}{Q:PV->PH->Prop}(w:G.Wf)(hG:pZ σ g G)(hA:KR σ a g t As S)(au:yK G S)
include P w hG hA au
theorem Mn{ma:Addr}{ms:List (PK×PV)}{m':Nat}(hm:σ ma=some (.dict ms m'))(M:MI G S ms){wd:Bool}(q:∀T A D B9,Ext σ B9->wI B9 T A G S.length D->A.g=g->Q (.ref T) B9):J9 W (n+4) (.ref 755) [.ref a,.ref ma,.bool wd,.str (Str.ofString "lalr")] σ Q:=by
 refine P.fn WI 55 rfl (ρ:=[.ref a,.ref ma,.bool wd,.str (Str.ofString "lalr"),.M7,.M7,.M7,.M7,.M7,.M7,.M7,.M7,.M7]) rfl ?_
 refine K1 (K7 (Led.start σ) rfl λ c4 aK L=>K1 (K7 L rfl λ c5 W9 L=>K1 (K7 L rfl λ c6 Y8 L=>K1 (K7 L rfl λ c7 bK L=>K1 (K7 L rfl λ c8 cH L=>?_)))))
 let F:(Nat->PV)->List PV:=λ v=>[.ref a,.ref ma,.bool wd,.str (Str.ofString "lalr"),.ref c4,.ref c5,.ref c6,.ref c7,.ref c8,v 9,v 10,v 11,v 12]
 have zS:=au.len
 refine eY F (l:=List.range S.length) (f:=λ i=>.ref (As.getD i CP).a) (v:=.ref t) (λ pre _ B9=>∃τ D,Ext σ τ∧Led τ B9 (Gw c4 c5 c6 c7 c8 D) []∧DL G τ pre.length D) rfl (D8 rfl ((hA.ext L.ext).ob.fld _)) ((hA.ext L.ext).it zS)
  ⟨σ,⟨[],[],[],[]⟩,.refl σ,L,rfl,λ _ h=>(nomatch h),rfl,λ _ h=>(nomatch h),rfl,λ _ h=>(nomatch h),K3 _,λ _ h=>(nomatch h),rfl⟩ ?_ ?_
 ·intro pre i post u eK R hl hQ;intros hQ τ D hZ;delta hZ E0 L1 H;intro hR
  have hZ:=P9 hl;delta hZ hp hi
  have e1:(pre++[i]).length=pre.length+1:=B0
  rw[e1]at hR
  have hk:pre.length=i:=by rw[hp,D9]
  rw[hk]at hR H
  have hS:i<32768:=D1 hi zS
  clear hp e1 hk hl
  have E:=E0.trans L1.ext
  refine K1 (H7 (I9 (D8 rfl ((hA.ext E).ob.fld _)) (I9 rfl (p1 rfl))) (OB (n:=n+1) P w (hG.ext E) (hA.ext E) au hi (E _ _ hm) M λ x dx eW B M1 hB=>?_))
  refine Led.keep (L:=Gw c4 c5 c6 c7 c8 D) (X:=[]) ((C9 (Gw c4 c5 c6 c7 c8 D)).symm▸L1.join M1) λ IE E1 L2 fZ=>?_
  have hD:OP IE x g i B:=Pn fZ
  have G1:=hG.ext (E0.trans E1)
  refine N4 (J1 rfl ((hD.ext L2.ext).ob.H2 "settle_levels" rfl rfl) rfl (UD (n:=n+1) P w (G1.ext L2.ext) (hD.ext L2.ext) hB λ qB E2=>?_))
  have L3:=L2.grow E2
  refine K1 (J1 rfl ((hD.ext L3.ext).ob.H2 "row" rfl rfl) rfl (Sf (n:=n+1) P w (G1.ext L3.ext) (hD.ext L3.ext) hB λ r IF rr E3 hr zr cr h=>?_))
  refine Led.keep (L:=Gw c4 c5 c6 c7 c8 D) (L3.adopt E3 hr h) λ Ol E4 L4 fZ=>?_
  have hr:=fZ _ (.head _)
  have hD:=hD.ext E4
  have G1:=G1.ext E4
  refine N4 (T0 rfl (N9 (L4.get 3 rfl) _) (F9 (J1 rfl ((hD.ext L4.ext).ob.H2 "conflicts" rfl rfl) (p1 rfl) (Mo (n:=n) P w (G1.ext L4.ext) (hD.ext L4.ext) hB (L4.ext _ _ hr) zr λ cc iU lc I hC=>M0 ?_))))
  intros I dk hZ;intros hZ cl Q0;generalize Q0.1=Ec,Q0.2=Lc,Q0.3=TJ;clear E2 E3 G1 M au hi hm m' ms post pre zS;obtain rfl:=Q0.4;try clear Q0
  have o6:cl.length<=160:=(A8 (as:=cl) (·.2))▸A9 hC.len (fA 16 (A9 w.tc w.names))
  refine(L4.grow (Ec.trans Lc.ext)).rb Bt λ UV E5 L5 hO=>?_
  have Ud:∀p∈cl,OQ UV p.1 p.2:=λ p hp=>let⟨w,o⟩:=TJ p hp;⟨w,hO _ _ _ (o.ext Lc.ext)⟩
  have hD:=hD.ext E5
  have hr:=E5 _ _ hr
  have j9:=(((E0.trans E1).trans E4).trans E5)
  have H:=H.ext ((E1.trans E4).trans E5)
  refine MZ 3 L5 rfl (Lc.get 0 rfl) ?_ λ nZ _ L6=>?_
  ·rw[A8,A8];have:=H.c1;lia
  replace L6:Led UV nZ (Gw c4 c5 c6 c7 c8 ⟨D.rows,D.QU,D.YZ,D.cl++cl⟩) []:=by show Led _ _ [_,_,_,(c7,.list (List.map _ (D.cl++cl))),_] _;rw[C1];exact L6
  clear L1 L2 L3 L4 L5 Lc TJ hO M1
  refine N4 (J1 rfl (N9 (L6.get 4 rfl) _) (p1 (D8 rfl ((hD.ext L6.ext).ob.fld _))) (MZ 4 L6 rfl (hD.ext L6.ext).st (K3 _) λ rA _ L7=>?_))
  replace L7:Led UV rA (Gw c4 c5 c6 c7 c8 ⟨D.rows,D.QU,D.YZ,D.cl++cl⟩) []:=L7
  refine P3 rfl (oR (λ O5 B9=>∃b,b<G.rules.length∧O5=[.ref a,.ref ma,.bool wd,.str (Str.ofString "lalr"),.ref c4,.ref c5,.ref c6,.ref c7,.ref c8,.ref (As.getD i CP).a,.ref x,.ref r,C0 b]∧Ext rA B9) ?_ λ R1 yE=>uS (t:=wd) rfl ⟨λ _=>K1 (H7 (p1 rfl) (UH (n:=n+2) P w (L7.ext _ _ hr) zr cr λ B9 b E hb=>s_end (yE _ _ ⟨b,hb,rfl,E⟩))),λ _=>s_end (yE _ _ ⟨0,w.pos,rfl,.refl _⟩)⟩)
  intro _ FQ hQ;intros hQ b hZ;generalize hZ.1=hb;obtain rfl:=hZ.2;delta hZ hZ hZ E6
  have L8:=L7.grow E6
  refine oR (λ O5 B9=>∃r' Nk CO,O5=[.ref a,.ref ma,.bool wd,.str (Str.ofString "lalr"),.ref c4,.ref c5,.ref c6,.ref c7,.ref c8,.ref (As.getD i CP).a,.ref x,.ref r',C0 b]∧Ext UV CO∧Led CO B9 (Gw c4 c5 c6 c7 c8 ⟨D.rows,D.QU,D.YZ,D.cl++cl⟩) []∧CO r'=some (.list (Nk.map .int))∧Nk.length=G.tc∧∀z∈Nk,Cell G.rules.length z) ?_
   λ R2 bR=>uS (N3 rfl rfl rfl) ⟨λ _=>K1 (H7 (I9 rfl (p1 rfl)) (UB (n:=n+2) P w (L8.ext _ _ hr) zr cr λ r' B9 Nk E Wu z c h=>?_)),λ _=>s_end (bR _ _ ⟨r,rr,UV,rfl,.refl _,L8,hr,zr,cr⟩)⟩
  ·intro _ On hQ;intros hQ r' Nk Oj hZ;obtain rfl:=hZ.1;delta hZ hZ E7 L9 Wu o5 dc
   have z1:∀{α:Type} {l:List α} {f:α->PV},l.length=i->(l.map f).length<=2^24:=λ h=>lz h (A9 (M8 hS) (by decide))
   refine N4 (aG 0 (x:=.ref r') L9 rfl rfl rfl (z1 H.r1) λ Iv _ OM=>N4 (aG 1 (x:=.ref B.gA) OM rfl rfl (D8 rfl ((hD.ext (E7.trans OM.ext)).ob.fld _)) (z1 H.g1) λ Om _ Gl=>N4 (aG 2 (x:=C0 b) Gl rfl rfl rfl (z1 H.d1) λ Bo _ Gk=>s_end (hR .next _ _ trivial (((j9.trans E7).trans Gk.ext _ _ hA.sl).trans (L.ext _ _ hA.sl).symm)
    ⟨Oj,_,j9.trans E7,?_,H.add E7 Wu o5 dc (E7 _ _ hD.go) hB.go hb o6 (λ p hp=>(Ud p hp).ext E7) hC⟩ rfl))))
   show Led Oj Bo [(c4,.list (List.map _ (D.rows++[_]))),(c5,.list (List.map _ (D.QU++[_]))),(c6,.list (List.map _ (D.YZ++[_]))),_,_] _
   rw[C1,C1,C1]
   exact Gk
  ·exact Led.keep (L:=Gw c4 c5 c6 c7 c8 ⟨D.rows,D.QU,D.YZ,D.cl++cl⟩) (L8.adopt E Wu h) λ Oj E L fZ=>s_end (bR _ _ ⟨r',Nk,Oj,rfl,E,L,fZ _ (.head _),z,c⟩)
 ·intro u eK hQ;intros hQ τ D hZ;delta hZ E L H
  rw[D9]at H
  refine W3 (H7 (I9 (D8 rfl ((hA.ext (E.trans L.ext)).ob.fld _)) (I9 rfl (I9 rfl (I9 rfl (I9 rfl (I9 rfl (p1 rfl))))))) (ZW (n:=n) P w (hG.ext (E.trans L.ext)) λ T nm lf le be nb eW E7 O hn hl=>?_))
  have X:=L.grow E7
  exact q T ⟨g,nm,lf,le,be,nb,c4,c5,c6,c7,c8⟩ D eW (E.trans X.ext) ⟨O,hn,hl,X.get 0 rfl,X.get 1 rfl,X.get 2 rfl,X.get 3 rfl,X.get 4 rfl,H.ext X.ext⟩ rfl
end
structure Oa where
 a:Addr
 t:Addr
 cA:Addr
 ma:Addr
 As:List SA
 ms:List (PK×PV)
 m:Nat
structure Ir(σ:PH)(V g:Addr)(B:Oa)(G:Gr)(S:List St):Prop where
 ob:aS σ V 811 [("grammar",.ref g),("automaton",.ref B.a),("cores",.ref B.cA),("masks",.ref B.ma)]
 ia:KR σ B.a g B.t B.As S
 co:σ B.cA=some (.list ((List.range S.length).map λ i=>.tup ((S.getD i aA).k.map C0)))
 ma:σ B.ma=some (.dict B.ms B.m)
 mi:MI G S B.ms
theorem Ir.ext{σ B9:PH}(E:Ext σ B9){V g:Addr}{B:Oa}{G:Gr}{S:List St}(h:Ir σ V g B G S):Ir B9 V g B G S:=⟨h.ob.ext E,h.ia.ext E,E _ _ h.co,E _ _ h.ma,h.mi⟩
section
variable{W:Wd}(P:dQ W){n:Nat}{σ:PH}{g:Addr}{G:Gr}{Q:PV->PH->Prop}(w:G.Wf)(hG:pZ σ g G)
include P w hG
theorem Fo{wd:Bool}(q:∀T A D N B9,Ext σ B9->G.IsT N->wI B9 T A G (G.sE N).length D->Q (.ref T) B9):J9 W (n+8) (.ref 763) [.ref g,.bool wd] σ Q:=
 P.fn qN 56 rfl (ρ:=[.ref g,.bool wd,.M7]) rfl (K1 (H7 rfl (RW (n:=n) P w P.ok hG λ a N t As aK E1 hN hA=>W3 (T5 (F9 (T5 (F9 (P2 rfl (F9 (H7 rfl (RU (n:=n+1) P w (hG.ext E1) hA (uI w hN) λ ma W9 ms m E2 hm M=>F9 (P2 rfl (F9 (P2 rfl (M0 (Mn (n:=n+3) P w (hG.ext (E1.trans E2)) (hA.ext E2) (uI w hN) hm M λ T A D Y8 E3 hT hg=>M0
  (P.fn EG 57 rfl (ρ:=[.ref T,.M7,.M7,.M7]) rfl (P3 (x:=.none) (D8 (D8 rfl ((hT.ob.fld _).trans (by rw[<-hg];rfl))) (hG.ext ((E1.trans E2).trans E3)).expect) (cZ (t:=false) rfl (λ h=>nomatch h) λ _=>O7 (W3 (P2 rfl (q T A D N Y8 ((E1.trans E2).trans E3) hN hT))))))))))))))))))))))
theorem Fn(q:∀V B N B9,Ext σ B9->G.IsT N->Ir B9 V g B G (G.sE N)->Q (.ref V) B9):J9 W (n+8) (.ref 820) [.ref g] σ Q:=
 P.fn wX 61 rfl (ρ:=[.ref g,.M7]) rfl (K1 (H7 rfl (RW (n:=n) P w P.ok hG λ a N t As aK E1 hN hA=>W3 (T5 (F9 (P2 rfl (F9 (P2 rfl (F9 (gS (l:=List.range (G.sE N).length) (f:=λ i=>.ref (As.getD i CP).a) (g:=λ i=>.tup (((G.sE N).getD i aA).k.map C0)) (v:=.ref t) (Led.start aK) (D8 rfl (hA.ob.fld _)) (hA.it (uI w hN).len) (λ _ _=>rfl) (λ i hi R hR=>P2 (D8 rfl ((hA.at (N1.mp hi)).ob.fld _)) hR) λ cA W9 E2 L=>F9 (H7 rfl (RU (n:=n+1) P w (hG.ext (E1.trans E2)) (hA.ext E2) (uI w hN) λ ma Y8 ms m E3 hm M=>M0
  (tV P wY 58 10 rfl rfl (O5:=[.ref g,.ref a,.ref cA,.ref ma]) (λ _=>rfl) (λ _=>rfl) λ V bK E4 _ O=>q V ⟨a,t,cA,ma,As,ms,m⟩ N bK (((E1.trans E2).trans E3).trans E4) hN ⟨O,((hA.ext E2).ext E3).ext E4,(E3.trans E4) _ _ (L.get 0 rfl),E4 _ _ hm,M⟩)))))))))))))
end
def Sz(k:Nat)(x:Str):Prop:=x.length<=k
theorem Sz.app{a b:Nat}{x y:Str}(h:Sz a x)(h':Sz b y):Sz (a+b) (x++y):=A9 (X0 (R7 x y)) (S0 h h')
theorem Sz.lit{k:Nat}{x:Str}(h:Nat.ble x.length k=true):Sz k x:=C3 h
theorem Sz.mono{a b:Nat}{x:Str}(h:Sz a x)(h':a<=b):Sz b x:=A9 h h'
theorem Sz.join{a b n:Nat}{x:Str}{l:List Str}(h:Sz a x)(hl:∀y∈l,Sz b y)(hn:l.length<=n):(l.map (·.length)).sum+l.length*x.length<=n*b+n*a:=by
 refine S0 (A9 ?_ (Nat.mul_le_mul_right b hn)) (Nat.mul_le_mul hn h)
 clear hn
 induction l with
 |nil=>exact K3 _
 |cons y l ih=>
  rw[I6,qX,H5,Nat.succ_mul,aE]
  exact S0 (ih λ z hz=>hl z (.tail _ hz)) (hl y (.head _))
theorem QV(x:Str)(l:List Str):Txt.join x l=Str.join x l:=StrLaws.glued_eq_join x l
abbrev Z2(i:Int):Str:=Str.ofString (toString i)
theorem Sz.Z2{i:Int}(h0:0<=i)(h1:i<32768):Sz 32770 (Z2 i):=by have:=len_str_of_int i;unfold Sz;lia
abbrev oS(s:String):Str:=Str.ofString s
section
variable{W:Wd}{n:Nat}{σ:PH}{ρ:List PV}{e e':PE}{Q:PV->PH->Prop}
theorem w_add{a b:Nat}{x y:Str}(hx:Sz a x)(hy:Sz b y)(hz:Nat.ble (a+b) 16777216=true)(q:Q (.str (x++y)) σ):mM .Add σ Q (.str x) (.str y):=⟨rfl,A9 (S0 hx hy) (C3 hz),q⟩
theorem HR{a b k:Nat}{x:Str}{c:Addr}{l:List Str}(e:σ c=some (.list (l.map .str)))(h:Sz a x)(hl:∀y∈l,Sz b y)(hn:l.length<=k)(hz:Nat.ble (k*b+k*a) 16777216=true)(q:Sz (k*b+k*a) (Str.join x l)->Q (.str (Str.join x l)) σ):J9 W n (.builtin "str.join") [.str x,.ref c] σ Q:=by
 have z:=Sz.join h hl hn
 have z2:=A9 (StrLaws.join_length_le x l) z
 have hz:=C3 hz
 exact Jo e (A9 z hz) (by rw[QV];exact q z2) (by rw[QV];exact A9 z2 hz)
theorem dN{x:Str}{f:String}{m:Value}(h:(GB.lookup f).map .builtin=some m):dY tb σ (.str x) f=some m:=h
end
abbrev fO.rw(D:fO)(k:Nat):List Int:=(D.rows.getD k (0,[])).2
abbrev fO.df(D:fO)(k:Nat):Nat:=D.YZ.getD k 0
abbrev fO.jX(D:fO)(k t:Nat):Int:=(D.rw k).getD t 0
abbrev fO.goal(D:fO)(k y:Nat):Int:=((D.QU.getD k (0,0,[])).2.2.lookup y).getD (-1)
abbrev aO(G:Gr)(s:Nat):Str:=G.names.getD s sD
section
variable{σ:PH}{T:Addr}{A:Aq}{G:Gr}{K k:Nat}{D:fO}
theorem DL.row{τ:PH}(h:DL G τ K D)(hk:k<K):τ (D.rows.getD k (0,[])).1=some (.list ((D.rw k).map .int))∧(D.rw k).length=G.tc∧∀z∈D.rw k,Cell G.rules.length z:=h.r2 _ (B5 (W5 (0,[]) (h.r1▸hk)))
theorem DL.cell{τ:PH}(h:DL G τ K D)(hk:k<K){t:Nat}(ht:t<G.tc):Cell G.rules.length (D.jX k t):=(h.row hk).3 _ (B5 (W5 0 ((h.row hk).2▸ht)))
theorem DL.Xy{τ:PH}(h:DL G τ K D)(hk:k<K):D.df k<G.rules.length:=h.d2 _ (B5 (W5 0 (h.d1▸hk)))
variable{W:Wd}(P:dQ W){n:Nat}{Q:PV->PH->Prop}(hT:wI σ T A G K D)
include P hT
theorem NY(hk:k<K){t:Nat}(ht:t<G.tc)(q:Q (.int (D.jX k t)) σ):J9 W (n+1) (.ref 669) [.ref T,C0 k,C0 t] σ Q:=
 P.fn dU 46 rfl (ρ:=[.ref T,C0 k,C0 t]) rfl (X7 (I8 (I8 (D8 rfl (hT.ob.fld _)) rfl (W8 (0,[]) hT.rl (hT.p.r1▸hk))) rfl (W8 0 (hT.p.row hk).1 ((hT.p.row hk).2▸ht))) q)
theorem HM(hk:k<K)(q:Q (C0 (D.df k)) σ):J9 W (n+1) (.ref 571) [.ref T,C0 k] σ Q:=
 P.fn kT 42 rfl (ρ:=[.ref T,C0 k]) rfl (X7 (I8 (D8 rfl (hT.ob.fld _)) rfl (W8 0 hT.dl (hT.p.d1▸hk))) q)
theorem Im(q:Q (C0 K) σ):J9 W (n+1) (.ref 662) [.ref T] σ Q:=
 P.fn cO 45 rfl (ρ:=[.ref T]) rfl (X7 (V8 (D8 rfl (hT.ob.fld _)) (len_list hT.rl (by rw[A8,hT.p.r1]))) q)
theorem NX(hk:k<K){y:Nat}(q:Q (.int (D.goal k y)) σ):J9 W (n+1) (.ref 676) [.ref T,C0 k,C0 y] σ Q:=
 P.fn iD 47 rfl (ρ:=[.ref T,C0 k,C0 y]) rfl (W3 (J1 (I8 (D8 rfl (hT.ob.fld _)) rfl (W8 (0,0,[]) hT.gl (hT.p.g1▸hk))) (gV (hT.p.g2 _ (B5 (W5 (0,0,[]) (hT.p.g1▸hk)))).1 _) (I9 rfl (p1 (xB rfl))) (RL P.ok (hT.p.g2 _ (B5 (W5 (0,0,[]) (hT.p.g1▸hk)))).1 q)))
end
def bS(G:Gr)(z:Int):Str:=
 if z=1048576 then oS "accept" else if z>0 then oS "shift, and go to state "++Z2 z else
 if z<0 then oS "reduce using rule "++Z2 (-z)++oS " ("++aO G (G.rules.getD (-z).toNat oE).left++oS ")" else oS "error"
theorem v9{σ:PH}{a:Addr}{G:Gr}(h:σ a=some (.list (Kl G))){i:Nat}(hi:i<G.rules.length):gD σ (.ref a) (C0 i)=some (C0 (G.rules.getD i oE).left):=I0 h (V5 (bW hi))
theorem Cell.sz{R:Nat}{z:Int}(h:Cell R z)(hR:R<=6):z=1048576∨(And (-6<z) (z<32768)):=h.imp id λ h=>⟨by lia,h.2⟩
def Short(G:Gr):Prop:=∀x∈G.names,Sz 10 x
theorem Short.nm{G:Gr}(h:Short G)(s:Nat):Sz 10 (aO G s):=by
 show Sz 10 (G.names.getD s sD)
 rw[C2]
 cases e:G.names[s]? with
 |none=>exact K3 _
 |some x=>exact h x (B5 e)
theorem uK{G:Gr}(w:G.Wf)(sh:Short G){z:Int}(h:Cell G.rules.length z):Sz 33000 (bS G z):=by
 unfold bS
 split
 ·exact .lit rfl
 ·rename_i h1
  have h:=(h.sz w.rules).resolve_left h1
  split
  ·exact((.lit rfl:Sz 30 _).app (Sz.Z2 (by lia) (by lia))).mono (C3 rfl)
  ·split
   ·exact(((((.lit rfl:Sz 30 _).app (Sz.Z2 (by lia) (by lia))).app (.lit rfl:Sz 2 _)).app (sh.nm _)).app (.lit rfl:Sz 2 _)).mono (C3 rfl)
   ·exact .lit rfl
section
variable{W:Wd}(P:dQ W){n:Nat}{σ:PH}{T:Addr}{A:Aq}{G:Gr}{K k:Nat}{D:fO}{Q:PV->PH->Prop}(w:G.Wf)(sh:Short G)(hT:wI σ T A G K D)
include P w sh hT
theorem ZU{z:Int}(hz:Cell G.rules.length z)(q:Q (.str (bS G z)) σ):J9 W (n+1) (.ref 613) [.ref T,.int z] σ Q:=by
 unfold bS at q
 refine P.fn qM 43 rfl (ρ:=[.ref T,.int z]) rfl (cZ (t:=decide (z=1048576)) (N3 rfl rfl rfl) (λ c=>qR (P2 rfl (by rw[F7 (D0 c)]at q;exact q))) λ c=>O7 ?_)
 have c:=K6 c
 rw[G0 c]at q
 have ff:=hz.resolve_left c
 have hz:=(hz.sz w.rules).resolve_left c
 refine cZ (t:=decide (z= -1048576)) (N3 rfl rfl rfl) (λ c=>absurd (D0 c) (by lia)) λ _=>O7 (cZ (t:=decide (z>0)) (N3 rfl rfl rfl) (λ c=>?_) λ c=>O7 ?_)
 ·rw[F7 (D0 c)]at q
  have c:=D0 c
  exact qR (O6 (P2 rfl (H7 (p1 rfl) (CD (by lia) (w_add (.lit rfl:Sz 30 _) (Sz.Z2 (by lia) hz.2) rfl q)))))
 ·have c:=K6 c
  rw[G0 c]at q
  refine cZ (t:=decide (z<0)) (N3 rfl rfl rfl) (λ c=>?_) λ c=>O7 (X7 rfl (by rw[G0 (K6 c)]at q;exact q))
  have c:=D0 c
  rw[F7 c]at q
  clear c;obtain⟨i,rfl⟩:∃i:Nat,z= -(i:Int):=⟨(-z).toNat,by lia⟩
  rw[Int.neg_neg,aZ]at q
  have hi:i<G.rules.length:=by lia
  have z1:Sz 32770 (Z2 i):=Sz.Z2 (G6 i) (by lia)
  have s1:=(.lit rfl:Sz 30 (oS "reduce using rule ")).app z1
  have s2:=s1.app (.lit rfl:Sz 2 (oS " ("))
  exact qR (O6 (O6 (O6 (O6 (P2 rfl (H7 (p1 (GM rfl)) (CD (by lia) (w_add (.lit rfl:Sz 30 _) z1 rfl (P2 rfl (w_add s1 (.lit rfl:Sz 2 _) rfl (P2 (I8 (D8 rfl (hT.ob.fld _)) (I8 (D8 rfl (hT.ob.fld _)) (GM rfl) (v9 hT.lf hi)) (W8 sD hT.nm (w.left _ (B5 (W5 oE hi))))) (w_add s2 (sh.nm _) rfl (P2 rfl (w_add (s2.app (sh.nm _)) (.lit rfl:Sz 2 _) rfl q))))))))))))))
end
section
variable{α:Type}[DecidableEq α]
def ad(acc:List α)(x:α):List α:=if x∈acc then acc else acc++[x]
theorem CJ{acc:List α}{x:α}(h:x∈acc):ad acc x=acc:=F7 h
theorem CK{acc:List α}{x:α}(h:x∉acc):ad acc x=acc++[x]:=G0 h
theorem Mu{acc:List α}{x y:α}:y∈ad acc x↔y∈acc∨y=x:=by
 by_cases h:x∈acc
 ·rw[CJ h];exact⟨.inl,λ e=>e.elim id λ e=>e▸h⟩
 ·rw[CK h,G8,D5]
theorem pY{y:α}:∀{l acc:List α},y∈l.foldl ad acc↔y∈acc∨y∈l
 |[],acc=>⟨.inl,λ e=>e.elim id λ h=>nomatch h⟩
 |x::l,acc=>by rw[J0,pY,Mu,F8,or_assoc]
theorem HW:∀{l acc:List α},(∀x∈l,x∈acc)->l.foldl ad acc=acc
 |[],_,_=>rfl
 |x::l,acc,h=>by rw[J0,CJ (h x (.head _))];exact HW λ y hy=>h y (.tail _ hy)
theorem HX:∀{l acc:List α},l.Nodup->(∀x∈l,x∉acc)->l.foldl ad acc=acc++l
 |[],_,_,_=>(C9 _).symm
 |x::l,acc,nd,h=>by
  rw[J0,CK (h x (.head _)),HX (N7.mp nd).2 λ y hy m=>?_,C6];rfl
  exact(G8.mp m).elim (h y (.tail _ hy)) λ e=>(N7.mp nd).1 (D5.mp e▸hy)
theorem So{acc:List α}{x:α}(h:acc.Nodup):(ad acc x).Nodup:=by
 by_cases e:x∈acc
 ·rw[CJ e];exact h
 ·rw[CK e];exact O8.mpr ⟨h,.cons (λ _ h=>nomatch h) .nil,λ a ha b hb c=>e (D5.mp hb▸c▸ha)⟩
theorem OI:∀{l acc:List α},acc.Nodup->(l.foldl ad acc).Nodup
 |[],_,h=>h
 |_::_,_,h=>by rw[J0];exact OI (So h)
end
def vL(ch:Int)(r:Nat):Bool:=!decide (ch= -(r:Int))
structure Uq(G:Gr)(rs:List Nat):Prop where
 lt:∀r∈rs,1<=r∧r<G.rules.length
 z:rs.length<=15
def PP(c:Cf):List Nat:=c.rs.filter (vL c.ch)
def Dt(rs:List Nat)(sr:Bool)(ch:Int):List Nat:=if(sr||decide (2<=rs.length))=true then rs.filter (vL ch)else[]
section
variable{β:Type}[DecidableEq β]
theorem PY{p:Nat->List β}{r:Nat}:∀{ys:List Nat} {acc:List β},(∀x∈p r,x∈acc)->(ys.flatMap λ y=>p r++p y).foldl ad acc=(ys.flatMap p).foldl ad acc
 |[],_,_=>rfl
 |y::ys,acc,h=>by
  rw[Z6,Z6,K9,K9,K9,HW h]
  exact PY λ x hx=>pY.mpr (.inl (h x hx))
theorem Cd{p:Nat->List β}{r y:Nat}{ys:List Nat}{acc:List β}:((p r++p y)++ys.flatMap λ y=>p r++p y).foldl ad acc=(p r++(p y++ys.flatMap p)).foldl ad acc:=by
 rw[K9,PY λ x hx=>pY.mpr (.inr (G9 _ hx)),<-K9,C6]
theorem XV{i t:Nat}{rs:List Nat}{sr:Bool}{ch:Int}(f:Nat->β)(acc:List β):((yH i t rs sr ch).flatMap λ c=>(PP c).map f).foldl ad acc=((Dt rs sr ch).map f).foldl ad acc:=by
 have fm:∀l:List Nat,(l.filter (vL ch)).map f=l.flatMap λ y=>([y].filter (vL ch)).map f:=λ l=>by
  induction l with
  |nil=>rfl
  |cons y l ih=>rw[Z6,<-ih,<-C1,<-G7];rfl
 unfold yH Dt
 cases rs with
 |nil=>cases sr<;>rfl
 |cons r ys=>
  have e2:(((r::ys).drop 1).map λ y=>(⟨i,t,[(r::ys).getD 0 0,y],ch⟩:Cf)).flatMap (λ c=>(PP c).map f)=ys.flatMap λ y=>([r].filter (vL ch)).map f++([y].filter (vL ch)).map f:=by
   rw[List.flatMap_map]
   refine C7 (List.flatMap · ys) (funext λ y=>?_)
   rw[<-C1,<-G7];rfl
  rw[Q7,e2,K9]
  clear e2;cases sr with
  |true=>
   show(ys.flatMap _).foldl ad ((([⟨i,t,r::ys,ch⟩]:List Cf).flatMap λ c=>(PP c).map f).foldl ad acc)=(((r::ys).filter (vL ch)).map f).foldl ad acc
   rw[Q2]
   show(ys.flatMap _).foldl ad ((((r::ys).filter (vL ch)).map f).foldl ad acc)=_
   refine HW λ x hx=>pY.mpr (.inr ?_)
   refine A0 (P6.mp hx) λ y hZ=>?_;delta hZ hy hx
   rw[fm,Z6]
   exact(G8.mp hx).elim (G9 _) λ h=>G4 _ (P6.mpr ⟨y,hy,h⟩)
  |false=>
   show(ys.flatMap _).foldl ad acc=_
   cases ys with
   |nil=>rfl
   |cons y ys=>
    rw[F7 (by rfl),fm (r::y::ys)]
    exact Cd (p:=λ y=>([y].filter (vL ch)).map f)
end
def lst(l:List Cf)(t:Nat):List Nat:=((l.filter λ c=>c.t==t).flatMap PP).foldl ad []
theorem uG{G:Gr}{i t:Nat}{rs:List Nat}{sr:Bool}{ch:Int}(h:Sr G rs){c:Cf}(hc:c∈yH i t rs sr ch):c.s=i∧c.t=t∧Uq G c.rs:=by
 rcases G8.mp hc with hc|hc
 ·split at hc
  ·rewrite[D5.mp hc];exact⟨rfl,rfl,h.lt,h.z⟩
  ·nomatch hc
 ·refine A0 (D2.mp hc) λ y hZ=>?_;generalize hZ.1=hy;clear hc;obtain rfl:=hZ.2;try clear hZ
  have hy:=kI hy
  exact⟨rfl,rfl,λ r hr=>(F8.mp hr).elim (λ e=>h.lt r (e▸B5 (W5 0 (List.length_pos_of_mem hy)))) λ e=>h.lt r (D5.mp e▸hy),C3 rfl⟩
theorem CG.mem{G:Gr}{i:Nat}:∀{b:Nat} {l:List Cf},CG G i b l->∀c∈l,c.s=i∧c.t<b∧Uq G c.rs
 |0,_,h,c,hc=>by rw[show _=[]from h]at hc;nomatch hc
 |b+1,_,⟨l',rs,sr,ch,h,hr,e⟩,c,hc=>by
  rw[e]at hc
  rcases G8.mp hc with hc|hc
  ·have:=h.mem c hc;exact⟨this.1,dI this.2,this.3⟩
  ·have:=uG hr hc;exact⟨this.1,this.2▸K5 _,this.3⟩
structure Ni(G:Gr)(L:List Nat):Prop where
 as:L.Pairwise (·<·)
 lt:∀r∈L,1<=r∧r<G.rules.length
theorem Sw{G:Gr}{rs:List Nat}{sr:Bool}{ch:Int}(h:Sr G rs):Ni G (Dt rs sr ch):=by
 unfold Dt
 split
 ·exact⟨h.as.filter _,λ r hr=>h.lt r (J5.mp hr).1⟩
 ·exact⟨.nil,λ _ h=>(nomatch h)⟩
theorem CG.lst{G:Gr}{i:Nat}{β:Type}[DecidableEq β]{f:Nat->Nat->β}(hf:∀t u r s,t<G.tc->u<G.tc->f t r=f u s->t=u∧r=s):∀{b:Nat} {l:List Cf},b<=G.tc->CG G i b l->
  (l.flatMap λ c=>(PP c).map (f c.t)).foldl ad []=((List.range b).flatMap λ t=>(lst l t).map (f t))∧∀t,Ni G (Mine.Internal.lst l t)∧(b<=t->Mine.Internal.lst l t=[])
 |0,_,_,h=>by rw[show _=[]from h];exact⟨rfl,λ t=>⟨⟨.nil,λ _ h=>(nomatch h)⟩,λ _=>rfl⟩⟩
 |b+1,_,hb,⟨l',rs,sr,ch,h,hr,e⟩=>by
  have hZ:=CG.lst hf (hU hb) h;delta hZ h1 h2
  have ok:=Sw (sr:=sr) (ch:=ch) hr
  have nd:=ok.as.imp U6
  have e0:Mine.Internal.lst (l'++yH i b rs sr ch) b=Dt rs sr ch:=by
   unfold Mine.Internal.lst
   rw[G7,(R3 (l:=l')).mpr λ c hc e=>U6 (h.mem c hc).2 (eq_of_beq e),(fB (l:=yH i b rs sr ch)).mpr λ c hc=>jL.mpr (uG hr hc).2]
   have:=XV (i:=i) (t:=b) (rs:=rs) (sr:=sr) (ch:=ch) id []
   rw[gK,show(λ c:Cf=>(PP c).map id)=PP from funext λ c=>gK _]at this
   exact this.trans ((HX nd λ _ _=>eP).trans (X5 _))
  have e1:∀t,t≠b->Mine.Internal.lst (l'++yH i b rs sr ch) t=Mine.Internal.lst l' t:=λ t ne=>by
   unfold Mine.Internal.lst
   rw[G7,(R3 (l:=yH i b rs sr ch)).mpr λ c hc e=>ne ((eq_of_beq e).symm.trans (uG hr hc).2),C9]
  rw[e]
  refine⟨?_,λ t=>?_⟩
  ·have e2:(yH i b rs sr ch).flatMap (λ c=>(PP c).map (f c.t))=(yH i b rs sr ch).flatMap λ c=>(PP c).map (f b):=by
    rw[sL,sL]
    exact C7 List.flatten (P1 λ c hc=>by rw[(uG hr hc).2])
   rw[Q7,K9,h1,e2,XV,List.range_succ,Q7,Q2,e0,HX]
   ·refine C7 (·++_) ?_
    rw[sL,sL]
    exact C7 List.flatten (P1 λ t ht=>by rw[e1 t (U6 (N1.mp ht))])
   ·exact X3.mpr (nd.imp λ ne e=>ne (hf _ _ _ _ hb hb e).2)
   ·intro x hx Wn
    refine A0 (D2.mp hx) λ r hZ=>?_;obtain rfl:=hZ.2;try clear hZ
    refine A0 (P6.mp Wn) λ t hZ=>?_;delta hZ ht Wn
    refine A0 (D2.mp Wn) λ s hZ=>?_;delta hZ hZ e
    have ht:=N1.mp ht
    exact U6 ht (hf _ _ _ _ (nM ht hb) hb e).1
  ·by_cases c:t=b
   ·rw[c,e0];exact⟨ok,λ h=>absurd h (Nat.not_succ_le_self _)⟩
   ·rw[e1 t c];exact⟨(h2 t).1,λ h=>(h2 t).2 (hU h)⟩
theorem CS.st{G:Gr}{k:Nat}:∀{K:Nat} {l:List Cf},CS G K l->(∀c∈l,c.s<K∧c.t<G.tc∧Uq G c.rs)∧(k<K->∃m,CG G k G.tc m∧l.filter (λ c=>c.s==k)=m)
 |0,_,h=>by rw[show _=[]from h];exact⟨λ _ h=>(nomatch h),λ h=>(nomatch h)⟩
 |K+1,_,⟨l',m,h,hm,e⟩=>by
  have hZ:=CS.st (k:=k) h;delta hZ h1 h2
  rw[e]
  refine⟨λ c hc=>?_,λ hk=>?_⟩
  ·clear h;rcases G8.mp hc with hc|hc
   ·exact⟨dI (h1 c hc).1,(h1 c hc).2,(h1 c hc).3⟩
   ·exact⟨(hm.mem c hc).1▸K5 _,(hm.mem c hc).2,(hm.mem c hc).3⟩
  ·rw[G7]
   clear h;rcases Y4.mp hk with hk|rfl
   ·refine A0 (h2 hk) λ m' hZ=>?_;delta hZ g1 g2
    refine⟨m',g1,?_⟩
    rw[g2,(R3 (l:=m)).mpr λ c hc e=>U6 hk ((eq_of_beq e).symm.trans (hm.mem c hc).1),C9]
   ·refine⟨m,hm,?_⟩
    rw[(R3 (l:=l')).mpr λ c hc e=>U6 (h1 c hc).1 (eq_of_beq e),(fB (l:=m)).mpr λ c hc=>jL.mpr (hm.mem c hc).1]
    rfl
def pick(k t:Nat)(c:Cf):Bool:=decide ((c.s:Int)=k)&&decide ((c.t:Int)=t)
def gQ(l:List Cf)(k t:Nat):List Nat:=((l.filter (pick k t)).flatMap PP).foldl ad []
theorem zA(a b:Nat):decide ((a:Int)=b)=(a==b):=by
 rw[fY,P8,jL];exact Int.ofNat_inj
theorem JO(l:List Cf)(k t:Nat):gQ l k t=lst (l.filter λ c=>c.s==k) t:=by
 unfold gQ lst
 rw[List.filter_filter]
 refine C7 (λ p=>((List.filter p l).flatMap PP).foldl ad []) (funext λ c=>?_)
 unfold pick
 rw[zA,zA,Bool.and_comm]
theorem CS.NA{G:Gr}{K:Nat}{l:List Cf}(h:CS G K l){k:Nat}(hk:k<K)(t:Nat):Ni G (gQ l k t):=by
 refine A0 ((h.st (k:=k)).2 hk) λ m hZ=>?_;delta hZ h1 h2
 rw[JO,h2]
 exact((CG.lst (f:=Prod.mk) (λ _ _ _ _ _ _ e=>⟨(qE e).1,(qE e).2⟩) (D7 _) h1).2 t).1
theorem Ni.dT{G:Gr}{L:List Nat}(h:Ni G L):dT L=L:=(FZ (.refl _) (h.as.imp M8)).symm
theorem Ni.len{G:Gr}{L:List Nat}(h:Ni G L)(w:G.Wf):L.length<=6:=A9 (Y2 (h.as.imp U6) λ r hr=>(h.lt r hr).2) w.rules
section
variable{W:Wd}(P:dQ W){n:Nat}{σ:PH}{T:Addr}{A:Aq}{G:Gr}{K k:Nat}{D:fO}{Q:PV->PH->Prop}(w:G.Wf)(hT:wI σ T A G K D)
include P w hT
theorem Ml(hK:K<=32768)(hk:k<K){t:Nat}(q:∀c B9,Ext σ B9->σ c=none->B9 c=some (.list ((gQ (D.cl.map (·.2)) k t).map C0))->Q (.ref c) B9):J9 W (n+1) (.ref 834) [.ref T,C0 k,C0 t] σ Q:=by
 have bd:=(hT.p.cs.st (k:=k)).1
 have zl:∀l:List (Addr×Cf),(∀p∈l,p∈D.cl)->∀r∈gQ (l.map (·.2)) k t,r<G.rules.length:=λ l hl r hr=>by
  refine A0 (P6.mp ((pY.mp hr).resolve_left eP)) λ c hZ=>?_;delta hZ hc hr
  refine A0 (D2.mp (J5.mp hc).1) λ p hZ=>?_;generalize hZ.1=hp;clear hc;obtain rfl:=hZ.2;try clear hZ
  exact((bd p.2 (J2 (hl p hp))).3.lt r (J5.mp hr).1).2
 refine P.fn tI 63 rfl (ρ:=[.ref T,C0 k,C0 t,.M7,.M7,.M7]) rfl (K1 (K7 (Led.start σ) rfl λ c3 aK L0=>?_))
 let F:(Nat->PV)->List PV:=λ v=>[.ref T,C0 k,C0 t,.ref c3,v 4,v 5]
 have zc:D.cl.length<=2^24:=by have:=hT.p.c1;lia
 refine eY F (l:=D.cl) (f:=λ p=>.ref p.1) (v:=.ref A.cl) (λ pre _ B9=>Led σ B9 [(c3,.list ((gQ (pre.map (·.2)) k t).map C0))] []) rfl (D8 rfl ((hT.ob.ext L0.ext).fld _)) (V6 (L0.ext _ _ hT.cl) (by rw[A8];exact zc)) L0 ?_ λ u B9 L=>?_
 ·intro pre p post u W9 R hl L hR
  have hp:p∈D.cl:=hl▸G4 _ (.head _)
  have vT:∀x∈pre,x∈D.cl:=λ x hx=>hl▸G9 _ hx
  refine A0 (hT.p.c2 p hp) λ _ O=>?_
  have hZ:=bd p.2 (J2 hp);delta hZ hZ hZ hb
  have e1:gQ ((pre++[p]).map (·.2)) k t=if pick k t p.2=true then(PP p.2).foldl ad (gQ (pre.map (·.2)) k t)else gQ (pre.map (·.2)) k t:=by
   unfold gQ
   rw[C1,G7,Q7,K9]
   by_cases c:pick k t p.2=true
   ·rw[F7 c,show List.filter (pick k t) (List.map (·.2) [p])=[p.2]from J3 c,Q2]
   ·rw[G0 c,show List.filter (pick k t) (List.map (·.2) [p])=[]from J4 c];rfl
  rw[e1]at hR
  have st:∀{B9},Ext σ B9->M9 aK (.ref A.cl) B9:=λ E=>(E _ _ hT.cl).trans (L0.ext _ _ hT.cl).symm
  have nd:(gQ (pre.map (·.2)) k t).Nodup:=OI .nil
  have lt:=zl pre vT
  generalize gQ (pre.map (·.2)) k t=acc at L hR nd lt
  refine cZ (t:=pick k t p.2) (jP (N3 (D8 rfl ((O.ext L.ext).fld _)) rfl rfl) (N3 (D8 rfl ((O.ext L.ext).fld _)) rfl rfl)) (λ c=>?_) λ c=>O7 (s_end (hR .next _ _ trivial (st L.ext) (by rw[G0 (by rw[c];exact C5)];exact L) rfl))
  rw[F7 c]at hR
  refine eY (λ v=>[.ref T,C0 k,C0 t,.ref c3,.ref p.1,v 5]) (l:=p.2.rs) (f:=C0) (λ p2 _ B9=>Led σ B9 [(c3,.list (((p2.filter (vL p.2.ch)).foldl ad acc).map C0))] []) rfl (D8 rfl ((O.ext L.ext).fld _)) (rN (by rw[A8];exact A9 hb.z (by decide))) L ?_ λ u B9 L=>O7 (s_end (hR .next _ _ trivial (st L.ext) L rfl))
  intro p2 r iG u2 Y8 R2 fM L bR
  have hZ:=P5 fM;delta hZ hZ hr
  have nd:=OI (l:=p2.filter (vL p.2.ch)) nd
  have lt:∀x∈(p2.filter (vL p.2.ch)).foldl ad acc,x<G.rules.length:=λ x hx=>(pY.mp hx).elim (lt x) λ h=>(hb.lt x (fM▸G9 _ (J5.mp h).1)).2
  rw[G7,K9]at bR
  generalize (p2.filter (vL p.2.ch)).foldl ad acc=acc at L bR nd lt
  refine cZ (t:=vL p.2.ch r&&!decide (r∈acc)) (jP (N3 (D8 rfl ((O.ext L.ext).fld _)) (xB rfl) rfl) (oT rfl rfl (in_list (L.get 0 rfl)))) (λ c=>?_) λ c=>O7 (s_end (bR .next _ _ trivial trivial ?_ rfl))
  ·have hZ:=F0.mp c;delta hZ c1 c2
   rw[show[r].filter (vL p.2.ch)=[r]from J3 c1,J0,CK (by simpa using c2)]at bR
   refine N4 (aG 0 (x:=C0 r) L rfl rfl rfl (GV (Y2 nd lt) (A9 w.rules (by decide))) λ B9 _ L'=>O7 (s_end (bR .next _ _ trivial trivial ?_ rfl)))
   show Led σ B9 [(c3,.list (List.map C0 (acc++[r])))] _
   rw[C1];exact L'
  ·by_cases c1:vL p.2.ch r=true
   ·rw[c1]at c
    rw[show[r].filter (vL p.2.ch)=[r]from J3 c1,J0,CJ (by simpa using c)];exact L
   ·rw[show[r].filter (vL p.2.ch)=[]from J4 c1];exact L
 ·have ls:=hT.p.cs.NA hk t
  exact W3 (H7 (p1 rfl) (dD (L.get 0 rfl) (H8 (ls.len w) (by decide)) λ c5 EW=>q c5 _ (L.ext.trans (Ext.new EW _)) (L.ext.none EW) (by rw[ls.dT];exact PH.J7 ..)))
end
abbrev wN(p:Str×Str):PV:=.tup [.str p.1,.str p.2]
def KZ(G:Gr)(D:fO)(k t:Nat):List (Str×Str):=if D.jX k t>0 then[(aO G t,bS G (D.jX k t))]else[]
def PW(G:Gr)(D:fO)(k t:Nat):List (Str×Str):=if D.jX k t<0 then[(aO G t,bS G (D.jX k t))]else[]
def Kh(G:Gr)(D:fO)(k t:Nat):List (Str×Str):=(gQ (D.cl.map (·.2)) k t).map λ r:Nat=>(aO G t,oS "["++bS G (-(r:Int))++oS "]")
def Bl(G:Gr)(D:fO)(k:Nat):List (Str×Str):=if D.df k=0 then[]else[(oS "$default",bS G (-(D.df k:Int)))]
def CU(G:Gr)(D:fO)(k t:Nat):List (Str×Str):=PW G D k t++Kh G D k t
def U9(G:Gr)(D:fO)(k:Nat):List (Str×Str):=(List.range G.tc).flatMap (KZ G D k)++((List.range G.tc).flatMap (CU G D k)++Bl G D k)
theorem Ox{W:Wd}{n:Nat}{σ:PH}{ρ:List PV}{e:PE}{Q:PV->PH->Prop}(h:(wp W tb n e).v ρ σ λ x B9=>match x with|.int i=>Q (.int (-i)) B9|_=>False):(wp W tb n (.neg e)).v ρ σ Q:=h
theorem Q5{α β:Type}(f:α->β)(l:List α)(x:α):(l++[x]).map f=l.map f++[f x]:=C1
theorem VC{α β:Type}{f:α->List β}{c:Nat}(h:∀x,(f x).length<=c):∀l:List α,(l.flatMap f).length<=c*l.length
 |[]=>K3 _
 |x::l=>by rw[Z6,B0,H5,Nat.mul_succ,aE];exact S0 (VC h l) (h x)
theorem Cell.neg{R i:Nat}(h:i<R):Cell R (-(i:Int)):=.inr ⟨Int.neg_lt_neg (T7.mpr h),by lia⟩
section
variable{W:Wd}(P:dQ W){n:Nat}{σ:PH}{T:Addr}{A:Aq}{G:Gr}{K k:Nat}{D:fO}{Q:PV->PH->Prop}(w:G.Wf)(sh:Short G)(hT:wI σ T A G K D)
include P w sh hT
theorem Mk(hK:K<=32768)(hk:k<K)(q:∀c B9,Ext σ B9->σ c=none->B9 c=some (.list ((U9 G D k).map wN))->(U9 G D k).length<=64->Q (.ref c) B9):J9 W (n+2) (.ref 827) [.ref T,C0 k] σ Q:=by
 have zt:=w.t5
 have z1:∀t,(KZ G D k t).length<=1:=λ t=>by unfold KZ;split;exact D7 _;exact K3 _
 have z2:∀t,(PW G D k t).length<=1:=λ t=>by unfold PW;split;exact D7 _;exact K3 _
 have z3:∀t,(Kh G D k t).length<=6:=λ t=>by unfold Kh;rw[A8];exact(hT.p.cs.NA hk t).len w
 have z4:∀t,(CU G D k t).length<=7:=λ t=>by unfold CU;rw[B0];exact(S0 (z2 t) (z3 t):_<=1+6)
 refine P.fn qO 62 rfl (ρ:=[.ref T,C0 k,.M7,.M7,.M7,.M7,.M7,.M7,.M7]) rfl (K1 (K7 (Led.start σ) rfl λ c2 aK L=>K1 (K7 L rfl λ c3 W9 L=>K1 (K7 L rfl λ c4 Y8 L=>?_))))
 let LL:List (Str×Str)->List (Str×Str)->List (Addr×PO):=λ a b=>[(c2,.list (a.map wN)),(c3,.list []),(c4,.list (b.map wN))]
 refine Z1 (H7 (p1 (D8 rfl ((hT.ob.ext L.ext).fld _))) (aP (Z0 (λ v=>[.ref T,C0 k,.ref c2,.ref c3,.ref c4,v 5,v 6,v 7,v 8]) (λ pre _ B9=>∃τ,Ext σ τ∧Led τ B9 (LL (pre.flatMap (KZ G D k)) (pre.flatMap (CU G D k))) []) rfl (fH (A9 zt (by decide))) ⟨σ,.refl _,L⟩ ?_ λ u B9 Ux=>?_)))
 ·intro pre t post u bK R hl hQ;intros hQ τ hZ;delta hZ E L1;intro hR
  have hZ:=P9 hl;delta hZ hp ht
  have y1:=VC z1 pre
  have y2:=VC z4 pre
  have y3:pre.length<=5:=by rw[hp,D9];exact A9 (M8 ht) zt
  rw[Q7,Q7,Q2,Q2]at hR
  generalize pre.flatMap (KZ G D k)=a at L1 hR y1
  generalize pre.flatMap (CU G D k)=b at L1 hR y2
  clear L
  have XU:=hT.ext (E.trans L1.ext)
  have cell:=hT.p.cell hk ht
  have cz:=cell.sz w.rules
  refine K1 (J1 rfl (XU.ob.H2 "explicit" rfl rfl) (I9 rfl (p1 rfl)) (NY P XU hk ht (K1 (dK (F9 (P2 (I8 (D8 rfl (XU.ob.fld _)) rfl (W8 sD XU.nm (D1 ht w.tc))) (F9 (H7 (I9 rfl (p1 rfl)) (ZU P w sh XU cell (M0 ?_))))))))))
  refine oR (λ O5 B9=>O5=[.ref T,C0 k,.ref c2,.ref c3,.ref c4,C0 t,.int (D.jX k t),.tup [.str (aO G t),.str (bS G (D.jX k t))],u 8]∧Led τ B9 (LL (a++KZ G D k t) (b++PW G D k t)) []) ?_ λ R1 yE=>uS (N3 rfl rfl rfl) ⟨λ h=>absurd (D0 h:D.jX k t= -1048576) (by lia),λ _=>cZ (t:=decide (D.jX k t>0)) (N3 rfl rfl rfl) (λ h=>?_) λ h=>cZ (t:=decide (D.jX k t<0)) (N3 rfl rfl rfl) (λ h'=>?_) λ h'=>O7 (O7 (s_end (yE _ _ ⟨rfl,?_⟩)))⟩
  ·intro _ cH hQ;obtain rfl:=hQ.1;delta hQ hQ L2
   refine Z1 (H7 (I9 rfl (I9 rfl (p1 rfl))) (Ml (n:=n) P w (hT.ext (E.trans L2.ext)) hK hk λ cl eK E6 TJ hl=>?_))
   refine Led.keep (L:=LL (a++KZ G D k t) (b++PW G D k t)) (L2.adopt E6 TJ hl) λ IE E1 L3 fZ=>?_
   have TJ:=fZ _ (.head _)
   have zl:(b++PW G D k t).length<=36:=by rw[B0];have:=z2 t;lia
   have ls:=hT.p.cs.NA hk t
   refine Z0 (λ v=>[.ref T,C0 k,.ref c2,.ref c3,.ref c4,C0 t,.int (D.jX k t),.tup [.str (aO G t),.str (bS G (D.jX k t))],v 8]) (f:=C0) (λ p2 _ B9=>Led IE B9 (LL (a++KZ G D k t) (b++PW G D k t++p2.map λ r:Nat=>(aO G t,oS "["++bS G (-(r:Int))++oS "]"))) []) rfl (qS (L3.ext _ _ TJ) (ls.len w) rfl) (by rw[nN,C9];exact L3) ?_ λ u B9 L=>s_end (hR .next _ _ trivial trivial ⟨IE,E.trans E1,by unfold CU;rw[<-C6];exact L⟩ rfl)
   intro p2 r iG u2 eW R2 fM L4 bR
   have hZ:=P5 fM;delta hZ hz hr
   have hr:=(ls.lt r hr).2
   have Xg:=hT.ext ((E.trans E1).trans L4.ext)
   have hz:=D1 hz (ls.len w)
   have s1:=uK w sh (Cell.neg hr)
   rw[C1,<-C6]at bR
   refine N4 (T0 rfl (N9 (L4.get 2 rfl) _) (F9 (dK (F9 (P2 (I8 (D8 rfl (Xg.ob.fld _)) rfl (W8 sD Xg.nm (D1 ht w.tc))) (F9 (O6 (O6 (P2 rfl (H7 (I9 rfl (p1 (xB rfl))) (ZU P w sh Xg (Cell.neg hr) (w_add (.lit rfl:Sz 2 _) s1 rfl (P2 rfl (w_add ((.lit rfl:Sz 2 (oS "[")).app s1) (.lit rfl:Sz 2 _) rfl (M0 (M0 (aW 2 L4 rfl ?_ λ qB _ L5=>s_end (bR .next _ _ trivial ((L5.ext _ _ TJ).trans (L3.ext _ _ TJ).symm) ?_ rfl))))))))))))))))))
   ·rw[A8,B0,A8];lia
   ·show Led IE qB [_,_,(c4,.list (List.map wN (_++[_])))] _
    rw[Q5];exact L5
  ·refine N4 (aG 0 (x:=.tup [.str (aO G t),.str (bS G (D.jX k t))]) L1 rfl rfl rfl (by rw[A8];lia) λ cH _ L2=>O7 (s_end (yE _ _ ⟨rfl,?_⟩)))
   unfold KZ PW
   rw[F7 (D0 h),G0 (Int.lt_asymm (D0 h)),C9]
   show Led τ cH [(c2,.list (List.map wN (_++[_]))),_,_] _
   rw[Q5];exact L2
  ·refine N4 (aG 2 (x:=.tup [.str (aO G t),.str (bS G (D.jX k t))]) L1 rfl rfl rfl (by rw[A8];lia) λ cH _ L2=>O7 (O7 (s_end (yE _ _ ⟨rfl,?_⟩))))
   unfold KZ PW
   rw[G0 (K6 h),F7 (D0 h'),C9]
   show Led τ cH [_,_,(c4,.list (List.map wN (_++[_])))] _
   rw[Q5];exact L2
  ·unfold KZ PW
   rw[G0 (K6 h),G0 (K6 h'),C9,C9];exact L1
 ·intros Ux τ hZ;delta hZ E L
  have y1:=VC z1 (List.range G.tc)
  have y2:=VC z4 (List.range G.tc)
  rw[D9]at y1 y2
  have hl:(U9 G D k).length<=64:=by
   unfold U9
   rw[B0,B0]
   have:(Bl G D k).length<=1:=by unfold Bl;split;exact K3 _;exact D7 _
   lia
  unfold U9 at q hl
  generalize (List.range G.tc).flatMap (KZ G D k)=a at L q y1 hl
  generalize (List.range G.tc).flatMap (CU G D k)=b at L q y2 hl
  have XU:=hT.ext (E.trans L.ext)
  refine oR (λ O5 B9=>O5=[.ref T,C0 k,.ref c2,.ref c3,.ref c4,u 5,u 6,u 7,u 8]∧Led τ B9 (LL a (b++Bl G D k)) []) ?_ λ R1 yE=>iB (J1 rfl (XU.ob.H2 "default" rfl rfl) (p1 rfl) (HM P XU hk (P2 rfl ⟨_,rfl,λ h=>?_,λ h=>s_end (yE _ _ ⟨rfl,?_⟩)⟩)))
  ·intro _ cH hQ;obtain rfl:=hQ.1;delta hQ hQ L2
   rw[B0,B0]at hl
   refine W3 (O6 (O6 (P2 rfl (P2 rfl (gG L2 (L2.get 0 rfl) (L2.get 1 rfl) (by rw[A8];exact A9 (A9 (J6 a.length _) hl) (by decide)) λ c6 eK L3=>P2 rfl (gG L3 (L3.get 3 rfl) (L3.get 2 rfl) (by rw[C9,A8,A8,B0];exact A9 hl (by decide)) λ c7 eW L4=>q c7 eW (E.trans L4.ext) (E.none (L4.new _ (.tail _ (.tail _ (.tail _ (.tail _ (.head _))))))) ?_ (by rw[B0,B0];exact hl)))))))
   rw[C1,L4.get 4 rfl,C9]
  ·have h0:D.df k≠0:=λ e=>by rw[e]at h;cases h
   have hd:=hT.p.Xy hk
   refine N4 (T0 rfl (N9 (L.get 2 rfl) _) (F9 (dK (F9 (P2 rfl (F9 (T5 (F9 (P2 rfl (F9 (Ox (J1 rfl (XU.ob.H2 "default" rfl rfl) (p1 rfl) (HM P XU hk (M0 (ZU P w sh XU (Cell.neg hd) (M0 (M0 (aW 2 L rfl (by rw[A8];lia) λ cH _ L2=>s_end (yE _ _ ⟨rfl,?_⟩)))))))))))))))))))
   unfold Bl
   rw[G0 h0]
   show Led τ cH [_,_,(c4,.list (List.map wN (_++[_])))] _
   rw[Q5];exact L2
  ·have h0:D.df k=0:=by
    have:(!decide ((D.df k:Int)=0))=false:=h
    simpa using this
   unfold Bl
   rw[F7 h0,C9];exact L
end
def Gc(k:Nat):Str:=⟨Array.replicate k 32⟩
theorem Str.ext2{a b:Str}(h:a.cps.toList=b.cps.toList):a=b:=by
 cases a;cases b;exact C7 _ (Array.toList_inj.mp h)
theorem BF(x:Str)(i:Int):Txt.ljust x i=x++Gc (i.toNat - x.length):=by
 unfold Txt.ljust
 split
 ·rename_i h
  rw[show i.toNat - x.length=0 from jB (Int.toNat_le.mpr h)]
  exact Str.ext2 (by rw[Str.cps_append,Array.toList_append];exact(C9 _).symm)
 ·refine Str.ext2 ?_
  rw[padded_list,Str.cps_append,Array.toList_append]
  show[]++_++_=_++(Array.replicate _ 32).toList
  rw[Array.toList_replicate];rfl
theorem Sz.ljust{x:Str}{k:Nat}(h:Sz k x){i:Int}(hi:i<=k):Sz k (Txt.ljust x i):=by
 rw[BF]
 unfold Sz at*
 rw[R7]
 show x.length+(Array.replicate _ 32).size<=k
 rw[Array.size_replicate]
 rcases Nat.le_total x.length i.toNat with e|e
 ·rw[Nat.add_sub_cancel' e];exact Int.toNat_le.mpr hi
 ·rw[jB e];exact h
def lO(l:List (Str×Str)):Int:=l.foldl (λ m p=>if(p.1.length:Int)>m then(p.1.length:Int)else m) 0
def IT(w:Int)(p:Str×Str):Str:=oS "    "++Txt.ljust p.1 w++oS "  "++p.2
def Y9(l:List (Str×Str)):List Str:=l.map (IT (lO l))
def Oc(l:List (Str×Str)):Prop:=l.length<=64∧∀p∈l,Sz 10 p.1∧Sz 40000 p.2
theorem Br{l:List (Str×Str)}(h:∀p∈l,Sz 10 p.1):And (0<=lO l) (lO l<=10):=by
 unfold lO
 have:∀{l:List (Str×Str)} {m:Int},(∀p∈l,Sz 10 p.1)->0<=m∧m<=10->0<=l.foldl (λ m p=>if(p.1.length:Int)>m then(p.1.length:Int)else m) m∧l.foldl (λ m p=>if(p.1.length:Int)>m then(p.1.length:Int)else m) m<=10:=λ{l}=>by
  induction l with
  |nil=>exact λ _ h=>h
  |cons p l ih=>
   intro m hl hm
   refine ih (λ x hx=>hl x (.tail _ hx)) ?_
   have:=hl p (.head _)
   unfold Sz at this
   dsimp only
   have:=hm.1;have:=hm.2
   split<;>exact⟨by lia,by lia⟩
 exact⟨(this h ⟨Int.le_refl _,by decide⟩).1,(this h ⟨Int.le_refl _,by decide⟩).2⟩
section
variable{W:Wd}(P:dQ W){n:Nat}{σ:PH}{Q:PV->PH->Prop}
include P
theorem RQ{a:Addr}{l:List (Str×Str)}(ha:σ a=some (.list (l.map wN)))(hl:Oc l)(q:∀c B9,Ext σ B9->σ c=none->B9 c=some (.list ((Y9 l).map .str))->Q (.ref c) B9):J9 W (n+1) (.ref 839) [.ref a] σ Q:=by
 refine P.fn wR 64 rfl (ρ:=[.ref a,.M7,.M7,.M7]) rfl (P3 rfl ?_)
 have it:mB σ (.ref a) (l.map λ p=>.tup [.str p.1,.str p.2]):=V6 ha (by rw[A8];exact A9 hl.1 (by decide))
 refine XX (λ v=>[.ref a,v 1,v 2,v 3]) (l:=l) (f:=λ p=>[.str p.1,.str p.2]) (λ pre v B9=>v 1=.int (lO pre)∧B9=σ) rfl rfl it (λ _ _=>rfl) ⟨rfl,rfl⟩ ?_ ?_
 ·intro pre p post u _ R fM hQ;generalize hQ.1=h1;clear P ha fM post;clear q it;obtain rfl:=hQ.2;try clear hQ;intro hR
  refine K1 (H7 (I9 (rH h1 rfl) (p1 (V8 rfl rfl))) (Ip (s_end (hR .next _ _ trivial rfl ⟨?_,rfl⟩ rfl))))
  show PV.int _=.int (lO (pre++[p]))
  unfold lO
  rw[K9];rfl
 ·intro u aK hQ;generalize hQ.1=h1;clear P ha;obtain rfl:=hQ.2;try clear hQ
  have hZ:=Br λ p hp=>(hl.2 p hp).1;delta hZ w0 w1
  refine W3 (gS (Led.start aK) rfl it (λ _ _=>rfl) (g:=λ p=>.str (IT (lO l) p)) (λ p hp R hR=>?_) λ c W9 E L=>?_)
  ·have hZ:=hl.2 p hp;delta hZ z1 z2
   have z3:=z1.ljust w1
   have s1:=(.lit rfl:Sz 4 (oS "    ")).app z3
   exact O6 (O6 (O6 (P2 rfl (J1 rfl (dN rfl) (p1 (rH h1 rfl)) (Bz w0 (Int.le_trans w1 (by decide)) (hz:=A9 z3 (by decide)) (w_add (.lit rfl:Sz 4 _) z3 rfl (P2 rfl (w_add s1 (.lit rfl:Sz 2 _) rfl (P2 rfl (w_add (s1.app (.lit rfl:Sz 2 (oS "  "))) z2 rfl hR))))))))))
  ·exact q c W9 E (L.new _ (.head _)) ((L.get 0 rfl).trans (by unfold Y9;rw[G2];rfl))
theorem UC{T:Addr}{A:Aq}{G:Gr}{K k:Nat}{D:fO}(hT:wI σ T A G K D)(q:∀c B9,Ext σ B9->σ c=none->B9 c=some (.list [])->Q (.ref c) B9):J9 W (n+1) (.ref 846) [.ref T,C0 k] σ Q:=by
 refine P.fn oF 65 rfl (ρ:=[.ref T,C0 k,.M7,.M7,.M7,.M7]) rfl (K1 (K7 (Led.start σ) rfl λ c aK L=>?_))
 exact eY (λ v=>[.ref T,C0 k,.ref c,v 3,v 4,v 5]) (l:=([]:List Nat)) (f:=C0) (v:=.ref A.sl) (λ _ _ B9=>B9=aK) rfl (D8 rfl ((hT.ob.ext L.ext).fld _)) (V6 (L.ext _ _ hT.sl) (K3 _)) rfl (λ pre x post u B9 R h=>by cases pre<;>cases h) λ u B9 e=>X7 rfl (e▸q c aK L.ext (L.new _ (.head _)) (L.get 0 rfl))
end
def Az(G:Gr)(i d:Nat):List Str:=((G.rules.getD i oE).right.map (aO G)).take d++oS "."::((G.rules.getD i oE).right.map (aO G)).drop d
def uY(G:Gr)(i d:Nat):Str:=aO G (G.rules.getD i oE).left++oS " : "++Str.join (oS " ") (Az G i d)
def NG(G:Gr)(m:Nat):Str:=Z2 (G.S6 m)++oS " "++uY G (G.S6 m) (G.rT m)
def EP(ms:List (PK×PV))(i r:Nat):Nat:=iJ 0 Int.toNat ((ms.lookup (k2 i r)).getD .none)
def Kj(G:Gr)(z:Nat):Str:=Str.join (oS ", ") ((X6 z G.tc).map (aO G))
def full(G:Gr)(m:Nat):Bool:=decide (G.S6 m≠0)&&(G.cL m).isNone
def zO(G:Gr)(ms:List (PK×PV))(k m:Nat):Str:=if full G m=true then NG G m++oS "  ["++Kj G (EP ms k (G.S6 m))++oS "]" else NG G m
theorem Gr.tE{G:Gr}(w:G.Wf){i:Nat}(hi:i<G.rules.length):G.rules[i]? =some (G.rules.getD i oE):=W5 oE hi
theorem LK{G:Gr}(w:G.Wf)(sh:Short G){i d:Nat}(hi:i<G.rules.length):(Az G i d).length<=4∧∀y∈Az G i d,Sz 10 y:=by
 have z:=w.len _ (B5 (Gr.tE w hi))
 unfold Az
 generalize (G.rules.getD i oE).right=l at z ⊢
 refine⟨?_,λ y hy=>?_⟩
 ·rw[B0,H5,Y1,U7,A8,XB];exact O1 z
 ·have h:∀y∈l.map (aO G),Sz 10 y:=λ y hy=>by refine A0 (D2.mp hy) λ s hZ=>?_;clear hy;obtain rfl:=hZ.2;try clear hZ;exact sh.nm s
  rcases G8.mp hy with hy|hy
  ·exact h y (List.mem_of_mem_take hy)
  ·rcases F8.mp hy with rfl|hy
   ·exact .lit rfl
   ·exact h y (kI hy)
theorem EA{G:Gr}(w:G.Wf)(sh:Short G){i d:Nat}(hi:i<G.rules.length):Sz 57 (uY G i d):=by
 have hZ:=LK (d:=d) w sh hi;delta hZ h1 h2
 exact((sh.nm _).app (.lit rfl:Sz 3 _)).app (A9 (StrLaws.join_length_le _ _) (Sz.join (.lit rfl:Sz 1 _) h2 h1))
theorem tC{G:Gr}{m:Nat}(h:m<G.aR.length):G.S6 m<G.rules.length:=(D3.mp (Gr.it h).rule).1
theorem GY{G:Gr}(w:G.Wf)(sh:Short G){m:Nat}(h:m<G.aR.length):Sz 40000 (NG G m):=
 ((((Sz.Z2 (G6 _) (by have:=tC h;have:=w.rules;lia)).app (.lit rfl:Sz 1 _)).app (EA w sh (tC h)))).mono (C3 rfl)
section
variable{W:Wd}(P:dQ W){n:Nat}{σ:PH}{g:Addr}{G:Gr}{Q:PV->PH->Prop}(w:G.Wf)(sh:Short G)(hG:pZ σ g G)
include P w sh hG
theorem Fh{i d:Nat}(hi:i<G.rules.length)(hd:d<=(G.rules.getD i oE).right.length)(q:∀B9,Ext σ B9->Q (.str (uY G i d)) B9):J9 W (n+1) (.ref 191) [.ref g,C0 i,C0 d] σ Q:=by
 refine A0 (hG.names) λ na hZ=>?_;delta hZ n1 n2
 have hr:=Gr.tE w hi
 refine ee3.e (hG.rule hr) λ ra rs b hZ=>?_;delta hZ r1 r2 r3 r4
 have hZ:=LK (d:=d) w sh hi;delta hZ z1 z2
 have z:=w.len _ (B5 hr)
 have ru:=B5 hr
 unfold uY Az at*
 generalize G.rules.getD i oE=r at*
 refine P.fn wQ 10 rfl (ρ:=[.ref g,C0 i,C0 d,.M7,.M7]) rfl (P3 (I8 (D8 rfl r1) rfl (I0 r2 r3)) (K1 (gS (Led.start σ) (D8 rfl r4.right) (rN (by rw[A8];exact A9 z (by decide))) (λ _ _=>rfl) (g:=λ s=>.str (aO G s)) (λ s hs R hR=>P2 (I8 (D8 rfl n1) rfl (W8 sD n2 (w.sym _ ru s hs))) hR) λ c aK E L=>?_)))
 refine cZ (t:=true) (N3 rfl rfl (C7 some (H3 (G6 d)))) (λ _=>N4 (J1 rfl (N9 (L.get 0 rfl) _) (I9 rfl (p1 rfl)) (XE (L.get 0 rfl) (G6 d) (by rw[A8];exact hd) (by rw[A8];exact A9 z (by decide)) ?_))) λ h=>nomatch h
 have L:=L.set 0 rfl (.list (((r.right.map λ s=>PV.str (aO G s)).take d++PV.str (oS ".")::(r.right.map λ s=>PV.str (aO G s)).drop d)))
 generalize Kw:aK.set c _=W9
 rw[show aK.set c (.list (((r.right.map λ s=>PV.str (aO G s)).take d++PV.str (oS ".")::(r.right.map λ s=>PV.str (aO G s)).drop d)))=W9 from Kw]at L
 have hc:W9 c=some (.list (((r.right.map (aO G)).take d++oS "."::(r.right.map (aO G)).drop d).map .str)):=(L.get 0 rfl).trans (by rw[C1,I6,List.map_take,List.map_drop,G2];rfl)
 exact O7 (W3 (O6 (O6 (P2 (I8 (D8 rfl (U8 L.ext n1)) (D8 rfl (r4.ext L.ext).left) (W8 sD (L.ext _ _ n2) (w.left _ ru))) (P2 rfl (w_add (sh.nm _) (.lit rfl:Sz 3 _) rfl (J1 rfl (dN rfl) (p1 rfl) (HR hc (.lit rfl:Sz 1 _) z2 z1 rfl λ z3=>w_add ((sh.nm _).app (.lit rfl:Sz 3 (oS " : "))) z3 rfl (q _ L.ext)))))))))
end
section
variable{W:Wd}{n:Nat}{σ:PH}{ρ:List PV}{c:PE}
theorem lJ{α:Type}{l:List α}{f g:α->PV}{p:α->Bool}{v:PV}{K:List PV->PH->Prop}{turn:PV->PH->(Option PV->PH->Prop)->Prop}(hv:mB σ v (l.map f))(Hu:∀B9,Ext σ B9->M9 σ v B9)
  (hs:∀x∈l,∀B9,Ext σ B9->∀R:Option PV->PH->Prop,(p x=true->∀S7,Ext B9 S7->R (some (g x)) S7)->(p x=false->∀S7,Ext B9 S7->R none S7)->turn (f x) B9 R)
  (k:∀B9,Ext σ B9->K ((l.filter p).map g) B9):∃xs,mB σ v xs∧pD (M9 σ v) turn xs [] σ K:=by
 refine⟨_,hv,comp_map (λ pre acc B9=>Ext σ B9∧acc=(pre.filter p).map g) ⟨.refl _,rfl⟩ (λ pre x post acc B9 R hl Uw hR=>?_) λ acc B9 ⟨h1,h2⟩=>h2▸k B9 h1⟩
 delta Uw h1 h2
 refine hs x (P5 hl).2 B9 h1 _ (λ e S7 h3=>hR (some (g x)) _ (Hu _ (h1.trans h3)) ⟨h1.trans h3,?_⟩) λ e S7 h3=>hR none _ (Hu _ (h1.trans h3)) ⟨h1.trans h3,?_⟩
 ·rw[G7,W1,e,C1,h2];rfl
 ·rw[G7,W1,e];exact h2.trans (C7 (List.map g) (C9 _).symm)
theorem jF{elt e:PE}{tg:Nat}{Q:PV->PH->Prop}(h:(wp W tb n e).v ρ σ λ iv B4=>∃xs,mB B4 iv xs∧pD (M9 B4 iv) (λ x σ R=>∃ys,eH tg x=some ys∧(wp W tb n c).t (ρ++ys) σ λ b B9=>match b with
   |true=>(wp W tb n elt).v (ρ++ys) B9 λ y S7=>R (some y) S7
   |false=>R .none B9) xs [] B4 λ ys H6=>∀c,H6 c=none->Q (.ref c) (H6.set c (.list ys))):(wp W tb n (.comp elt tg e c)).v ρ σ Q:=h
theorem iC{a:Addr}{o:PO}(h:σ a=some o):∀B9,Ext σ B9->M9 σ (.ref a) B9:=λ B9 E=>(E _ _ h).trans h.symm
end
theorem XA{G:Gr}{S:List St}{ms:List (PK×PV)}(M:MI G S ms){i r:Nat}(hi:i<S.length)(h:r∈(S.getD i aA).iV):EP ms i r<2^G.tc∧ms.lookup (k2 i r)=some (C0 (EP ms i r)):=by
 refine A0 (M.ix i r hi h) λ k hZ=>?_;delta hZ hk e
 have:EP ms i r=k:=by unfold EP;rw[e];rfl
 rw[this];exact⟨hk,e⟩
theorem Am{G:Gr}{m:Nat}:full G m=(!decide ((G.S6 m:Int)=0)&&!decide (OG (G.PR m) (G.rT m)>=0)):=by
 unfold full OG
 show _=(_&&!decide ((match G.cL m with|some s=>(s:Int)|none=> -1)>=0))
 congr 1
 ·rw[decide_not,fY];simp
 ·cases G.cL m with
  |none=>rfl
  |some s=>exact(C7 not (H3 (G6 s))).symm
theorem JS{G:Gr}{S:List St}(au:yK G S){s:St}(hs:s∈S){m:Nat}(hm:m∈s.items)(h:full G m=true):G.S6 m∈s.iV:=by
 have hZ:=F0.mp h;delta hZ h1 h2
 have it:=Gr.it (au.lt hs m hm)
 have:=eU.mp (it.OG.symm.trans (eT.mp h2))
 have e:G.rT m=(G.PR m).right.length:=Nat.le_antisymm it.dot this
 exact au.red hs it.rule (D0 h1) (by rw[<-e,<-it.at_];exact hm)
theorem GW{G:Gr}(w:G.Wf)(sh:Short G){z:Nat}:((X6 z G.tc).map (aO G)).length<=5∧∀y∈(X6 z G.tc).map (aO G),Sz 10 y:=by
 refine⟨?_,λ y hy=>by refine A0 (D2.mp hy) λ s hZ=>?_;clear hy;obtain rfl:=hZ.2;try clear hZ;exact sh.nm s⟩
 rw[A8]
 exact A9 (H4 ..) (by rw[D9];exact w.t5)
theorem Gd{z N k:Nat}(h:k∈X6 z N):k<N:=N1.mp (J5.mp h).1
section
variable{W:Wd}(P:dQ W){n:Nat}{σ:PH}{V g:Addr}{B:Oa}{G:Gr}{S:List St}{Q:PV->PH->Prop}(w:G.Wf)(sh:Short G)(hG:pZ σ g G)(hV:Ir σ V g B G S)(au:yK G S)
include P w hV au
theorem UG{k:Nat}(hk:k<S.length)(q:∀c B9,Ext σ B9->σ c=none->B9 c=some (.list ((S.getD k aA).items.map C0))->Q (.ref c) B9):J9 W (n+1) (.ref 796) [.ref V,C0 k] σ Q:=by
 have hs:S.getD k aA∈S:=B5 (W5 aA hk)
 have kp:=au.kp _ hs
 have ks:=au.ks _ hs
 have it:=au.it _ hs
 have hA:=hV.ia
 have z1:=ks.len w
 have z2:(S.getD k aA).items.length<=15:=by rw[it];exact ks.close.len w
 have ek:dT (S.getD k aA).k=(S.getD k aA).k:=(FZ (.refl _) (kp.1.imp M8)).symm
 have e:(S.getD k aA).k++dT ((S.getD k aA).items.filter λ m=>!decide (m∈(S.getD k aA).k))=(S.getD k aA).items:=by
  rw[it]
  unfold Gr.close
  rw[ek,G7,(R3 (l:=(S.getD k aA).k)).mpr λ m hm=>by rw[H3 hm];exact C5,(fB (l:=dT (G.HV (S.getD k aA).k))).mpr λ m hm=>by rw[J8 (CH ((N8 _).mem_iff.mp hm)).2];rfl,X5,(FZ (.refl _) (FY _)).symm]
 have Hu:=(hA.at hk)
 refine P.fn nA 59 rfl (ρ:=[.ref V,C0 k,.M7]) rfl (K1 (H7 (p1 (I8 (D8 rfl (hV.ob.fld _)) rfl (I0 hV.co (V5 (bW hk))))) (CF (by rw[A8];exact A9 z1 (by decide)) λ c hc=>?_)))
 have L:Led σ _ [(c,.list ((S.getD k aA).k.map C0))] []:=(Led.start σ).alloc hc _
 generalize σ.set c _=aK at L ⊢
 refine W3 (O6 (P2 rfl (T5 (F9 (OX (l:=(S.getD k aA).items) (f:=C0) (g:=C0) (p:=λ m=>!decide (m∈(S.getD k aA).k)) (Led.start aK) (D8 (I8 (D8 (D8 rfl ((hV.ob.ext L.ext).fld _)) ((hA.ext L.ext).ob.fld _)) rfl ((hA.ext L.ext).sub hk)) ((Hu.ext L.ext).ob.fld _)) (qS (Hu.ext L.ext).it z2 rfl) (λ _ _=>rfl)
  (λ m hm R hR=>uS (oT rfl rfl (in_list (L.get 0 rfl))) hR) (λ m hm _ R hR=>P2 rfl hR) λ c2 W9 E2 L2=>M0 (dD (L2.get 0 rfl) (H8 (A9 (H4 ..) z2) (by decide)) λ c3 CR=>?_))))))
 have E3:=E2.trans (Ext.new CR (.list ((dT ((S.getD k aA).items.filter λ m=>!decide (m∈(S.getD k aA).k))).map C0)))
 refine gG (L.grow E3) ((L.grow E3).get 0 rfl) (PH.J7 ..) ?_ λ c4 bK L4=>q c4 bK L4.ext (L4.new _ (.tail _ (.head _))) ((L4.get 1 rfl).trans (by rw[<-C1,e]))
 rw[<-B0,<-C1,e,A8];exact A9 z2 (by decide)
include sh hG
theorem Fq{k m:Nat}(hk:k<S.length)(hm:m∈(S.getD k aA).items)(q:∀B9,Ext σ B9->Q (.str (zO G B.ms k m)) B9):J9 W (n+2) (.ref 808) [.ref V,C0 k,C0 m] σ Q:=by
 have hs:S.getD k aA∈S:=B5 (W5 aA hk)
 have lt:=au.lt hs m hm
 have it:=Gr.it lt
 have hi:=tC lt
 have z0:Sz 32770 (Z2 (G.S6 m)):=Sz.Z2 (G6 _) (by have:=w.rules;lia)
 have z1:=GY w sh lt
 have fu:=Am (G:=G) (m:=m)
 unfold zO at q
 refine P.fn kS 60 rfl (ρ:=[.ref V,C0 k,C0 m,.M7,.M7,.M7,.M7]) rfl (P3 (D8 rfl (hV.ob.fld _)) (K1 (J1 rfl (hG.H2 "rule_of" 164 (by simp)) (p1 rfl) (lK (n:=n) P hG it (K1 (O6 (O6 (H7 (p1 rfl) (CD (Tl (D1 hi (A9 w.rules (C3 rfl)))) (P2 rfl (w_add z0 (.lit rfl:Sz 1 _) rfl (T5 (F9 (P2 rfl (F9 (P2 rfl (F9 (J1 rfl (hG.H2 "dot_of" 171 (by simp)) (p1 rfl) (BZ (n:=n) P hG it (M0 (Fh (n:=n) P w sh hG hi it.dot λ aK E=>w_add (z0.app (.lit rfl:Sz 1 (oS " "))) (EA w sh hi) rfl ?_)))))))))))))))))))))
 have TN:=hG.ext E
 have d9:=hV.ext E
 refine iF (VN (uS (t:=decide ((G.S6 m:Int)=0)) (N3 rfl rfl rfl) ?_))
 cases h0:decide ((G.S6 m:Int)=0)with
 |true=>
  rw[h0]at fu
  rw[fu]at q
  exact⟨λ _=>qR (P2 rfl (q aK E)),λ h=>nomatch h⟩
 |false=>
  refine iB (J1 rfl (TN.H2 "after" 178 (by simp)) (p1 rfl) (zC (n:=n) P TN it (P2 rfl ⟨_,rfl,λ h=>?_,λ h=>O7 ?_⟩)))
  ·rw[h0,show decide (OG (G.PR m) (G.rT m)>=0)=true from h]at fu
   rw[fu]at q
   exact qR (P2 rfl (q aK E))
  ·rw[h0,show decide (OG (G.PR m) (G.rT m)>=0)=false from h]at fu
   rw[F7 (show full G m=true from fu)]at q
   have hZ:=XA hV.mi hk (JS au hs hm fu);delta hZ k1 k2
   refine A0 (TN.names) λ na hZ=>?_;delta hZ n1 n2
   have z2:=GW (z:=EP B.ms k (G.S6 m)) w sh
   have s1:=z1.app (.lit rfl:Sz 3 (oS "  ["))
   refine K1 (jF (H7 (p1 (I8 (D8 rfl (d9.ob.fld _)) (oU (I9 rfl (p1 rfl))) ((bB d9.ma (bE [k,G.S6 m])).trans k2))) (CA (n:=n) P k1 (A9 w.t5 (by decide)) λ cb W9 E2 fp hl=>lJ (p:=λ _=>true) (g:=λ s=>.str (aO G s)) (V6 hl (by rw[A8];exact A9 (H4 ..) (by rw[D9];exact A9 w.t5 (by decide)))) (iC hl)
    (λ s hs Y8 E3 R hR _=>⟨[C0 s],rfl,uS rfl (P2 (I8 (D8 rfl (U8 (E2.trans E3) n1)) rfl (W8 sD ((E2.trans E3) _ _ n2) (D1 (Gd hs) w.tc))) (hR rfl _ (.refl _)))⟩) λ Y8 E3 c hc=>?_)))
   have E4:=E3.trans (Ext.new hc (.list (((X6 (EP B.ms k (G.S6 m)) G.tc).filter λ _=>true).map λ s=>.str (aO G s))))
   have fM:=PH.J7 Y8 c (.list (((X6 (EP B.ms k (G.S6 m)) G.tc).filter λ _=>true).map λ s=>.str (aO G s)))
   generalize Y8.set c _=bK at E4 fM ⊢
   rw[fB.mpr λ _ _=>rfl]at fM
   exact W3 (O6 (O6 (O6 (P2 rfl (P2 rfl (w_add z1 (.lit rfl:Sz 3 _) rfl (J1 rfl (dN rfl) (p1 rfl) (HR (l:=(X6 (EP B.ms k (G.S6 m)) G.tc).map (aO G)) (by rw[fM,G2];rfl) (.lit rfl:Sz 2 _) z2.2 z2.1 rfl λ z3=>w_add s1 z3 rfl (P2 rfl (w_add (s1.app z3) (.lit rfl:Sz 2 _) rfl (q bK ((E.trans E2).trans E4))))))))))))
end
theorem YX{x:PV}(h:scalar x=true):vV x x=true:=by
 cases x<;>first|exact H3 rfl|exact absurd h C5
theorem EZ:∀{l:List PV},l.all scalar=true->DH l l=true
 |[],_=>rfl
 |x::l,h=>by
  have hZ:=F0.mp (dE.symm.trans h);delta hZ h1 h2
  show(vV x x&&DH l l)=true
  rw[YX h1,EZ h2];rfl
theorem KA{x:PV}(h:eZ x=true):KB x x=true:=by
 cases x with
 |tup xs=>exact EZ h
 |int i=>exact H3 rfl
 |str s=>exact H3 rfl
 |_=>cases h
theorem FD:∀{l:List PV},l.all eZ=true->BR l l=true
 |[],_=>rfl
 |x::l,h=>by
  have hZ:=F0.mp (dE.symm.trans h);delta hZ h1 h2
  show(KB x x&&BR l l)=true
  rw[KA h1,FD h2];rfl
theorem iO{σ:PH}{a b:Addr}{xs:List PV}(ha:σ a=some (.list xs))(hb:σ b=some (.list xs))(h:xs.all eZ=true):Bi σ (.ref a) (.ref b)=some true:=by
 show Ii σ a b=_
 unfold Ii
 rw[ha,hb]
 show(if _ then some (BR xs xs)else none)=_
 rw[F7 ⟨h,h⟩,FD h]
theorem RH{σ:PH}{a b:Addr}{xs:List PV}(ha:σ a=some (.list xs))(hb:σ b=some (.list []))(h:xs.all eZ=true):Bi σ (.ref a) (.ref b)=some xs.isEmpty:=by
 show Ii σ a b=_
 unfold Ii
 rw[ha,hb]
 show(if _ then some (BR xs [])else none)=_
 rw[F7 ⟨h,rfl⟩]
 clear ha h;cases xs<;>rfl
theorem uT(l:List Str):(l.map PV.str).all eZ=true:=by rw[cR];exact G3.mpr λ _ _=>rfl
def DG(k:Nat):Str:=oS "State "++Z2 k
def Id(G:Gr)(D:fO)(k i:Nat):List (Str×Str):=if D.goal k (G.tc+i)>=0 then[(aO G (G.tc+i),oS "go to state "++Z2 (D.goal k (G.tc+i)))]else[]
def iN(G:Gr)(D:fO)(k:Nat):List (Str×Str):=(List.range (G.names.length - G.tc)).flatMap (Id G D k)
def yC(G:Gr)(S:List St)(ms:List (PK×PV))(k:Nat):List Str:=(S.getD k aA).items.map λ m=>oS "    "++zO G ms k m
def iZ(acc p:List Str):List Str:=if p=[]then acc else acc++[oS ""]++p
theorem An(acc:List Str):iZ acc []=acc:=F7 rfl
def SN(G:Gr)(D:fO)(S:List St)(ms:List (PK×PV))(k:Nat):List Str:=iZ (iZ ([DG k,oS ""]++yC G S ms k) (Y9 (U9 G D k))) (Y9 (iN G D k))++[oS ""]
theorem DL.HC{G:Gr}{τ:PH}{K k:Nat}{D:fO}(h:DL G τ K D)(hk:k<K)(y:Nat):D.goal k y<32768∧ -1<=D.goal k y:=by
 show((D.QU.getD k (0,0,[])).2.2.lookup y).getD (-1)<32768∧_<=((D.QU.getD k (0,0,[])).2.2.lookup y).getD (-1)
 cases e:(D.QU.getD k (0,0,[])).2.2.lookup y with
 |none=>exact⟨by decide,by decide⟩
 |some v=>
  have:=(h.g2 _ (B5 (W5 (0,0,[]) (h.g1▸hk)))).2 _ (GU e)
  exact⟨this.2,Int.le_trans (by decide) this.1⟩
theorem Jm{G:Gr}(w:G.Wf)(sh:Short G){ms:List (PK×PV)}{k m:Nat}(h:m<G.aR.length):Sz 41000 (zO G ms k m):=by
 have z1:=GY w sh h
 unfold zO
 split
 ·have z2:=GW (z:=EP ms k (G.S6 m)) w sh
  have z3:Sz (5*10+5*2) (Kj G (EP ms k (G.S6 m))):=A9 (StrLaws.join_length_le _ _) (Sz.join (.lit rfl:Sz 2 _) z2.2 z2.1)
  exact(((z1.app (.lit rfl:Sz 3 _)).app z3).app (.lit rfl:Sz 1 _)).mono (C3 rfl)
 ·exact z1.mono (C3 rfl)
theorem Oc.app{a b:List (Str×Str)}{k:Nat}(ha:∀p∈a,Sz 10 p.1∧Sz 40000 p.2)(hb:∀p∈b,Sz 10 p.1∧Sz 40000 p.2):∀p∈a++b,Sz 10 p.1∧Sz 40000 p.2:=λ p hp=>(G8.mp hp).elim (ha p) (hb p)
section
variable{G:Gr}{τ:PH}{K k:Nat}{D:fO}(w:G.Wf)(sh:Short G)(h:DL G τ K D)(hk:k<K)
include w sh h hk
omit sh in
theorem EB:(∀t,(KZ G D k t).length<=1)∧(∀t,(CU G D k t).length<=7)∧(U9 G D k).length<=64:=by
 have z1:∀t,(KZ G D k t).length<=1:=λ t=>by unfold KZ;split;exact D7 _;exact K3 _
 have z2:∀t,(PW G D k t).length<=1:=λ t=>by unfold PW;split;exact D7 _;exact K3 _
 have z3:∀t,(Kh G D k t).length<=6:=λ t=>by unfold Kh;rw[A8];exact(h.cs.NA hk t).len w
 have z4:∀t,(CU G D k t).length<=7:=λ t=>by unfold CU;rw[B0];exact(S0 (z2 t) (z3 t):_<=1+6)
 refine⟨z1,z4,?_⟩
 have y1:=VC z1 (List.range G.tc)
 have y2:=VC z4 (List.range G.tc)
 rw[D9]at y1 y2
 have zt:=w.t5
 unfold U9
 rw[B0,B0]
 have:(Bl G D k).length<=1:=by unfold Bl;split;exact K3 _;exact D7 _
 lia
theorem IR:Oc (U9 G D k):=by
 refine⟨(EB w h hk).3,?_⟩
 have ca:∀{z},Cell G.rules.length z->Sz 40000 (bS G z):=λ c=>(uK w sh c).mono (by decide)
 have bit:∀(c:Prop) [Decidable c] (p:Str×Str),Sz 10 p.1->Sz 40000 p.2->∀x∈(if c then[p]else[]),Sz 10 x.1∧Sz 40000 x.2:=λ c _ p h1 h2 x hx=>by
  split at hx
  ·rewrite[D5.mp hx];exact⟨h1,h2⟩
  ·nomatch hx
 refine Oc.app (k:=0) (λ p hp=>?_) (Oc.app (k:=0) (λ p hp=>?_) λ p hp=>?_)
 ·refine A0 (P6.mp hp) λ t hZ=>?_;delta hZ ht hp
  exact bit _ _ (sh.nm t) (ca (h.cell hk (N1.mp ht))) p hp
 ·refine A0 (P6.mp hp) λ t hZ=>?_;delta hZ ht hp
  rcases G8.mp hp with hp|hp
  ·exact bit _ _ (sh.nm t) (ca (h.cell hk (N1.mp ht))) p hp
  ·refine A0 (D2.mp hp) λ r hZ=>?_;generalize hZ.1=hr;clear hp;obtain rfl:=hZ.2;try clear hZ
   exact⟨sh.nm t,(((.lit rfl:Sz 1 (oS "[")).app (uK w sh (Cell.neg ((h.cs.NA hk t).lt r hr).2))).app (.lit rfl:Sz 1 (oS "]"))).mono (by decide)⟩
 ·unfold Bl at hp
  split at hp
  ·nomatch hp
  ·rewrite[D5.mp hp];exact⟨.lit rfl,ca (Cell.neg (h.Xy hk))⟩
theorem QT:(∀i,(Id G D k i).length<=1)∧Oc (iN G D k):=by
 have z1:∀i,(Id G D k i).length<=1:=λ t=>by unfold Id;split;exact D7 _;exact K3 _
 refine⟨z1,?_,λ p hp=>?_⟩
 ·refine A9 (VC z1 _) ?_
  rw[D9]
  have:=w.names
  lia
 ·refine A0 (P6.mp hp) λ t hZ=>?_;delta hZ ht hp
  unfold Id at hp
  split at hp
  ·rewrite[D5.mp hp]
   exact⟨sh.nm _,((.lit rfl:Sz 12 (oS "go to state ")).app (Sz.Z2 ‹_› (h.HC hk _).1)).mono (by decide)⟩
  ·nomatch hp
end
theorem Hj{σ:PH}{ρ:List PV}{i:Nat}{v:PV}{c:Addr}(e:v=.ref c)(h:ρ[i]? =some v):pv σ ρ (.loc i)=some (.ref c):=by
 subst e;exact WQ h rfl
theorem CI:∀{l:List (Addr×List Str)} {acc:List Str},(∀p∈l,p.2.length<=64)->(l.foldl (λ a p=>iZ a p.2) acc).length<=acc.length+65*l.length
 |[],_,_=>D7 _
 |p::l,acc,h=>by
  have h1:=CI (l:=l) (acc:=iZ acc p.2) λ x hx=>h x (.tail _ hx)
  have h2:=h p (.head _)
  have:(iZ acc p.2).length<=acc.length+65:=by
   unfold iZ
   split
   ·exact J6 _ _
   ·rw[B0,B0];show _+1+_<=_;lia
  rw[J0,H5];lia
section
variable{W:Wd}(P:dQ W){n:Nat}{σ:PH}{V g T:Addr}{B:Oa}{A:Aq}{G:Gr}{S:List St}{D:fO}{Q:PV->PH->Prop}(w:G.Wf)(sh:Short G)(hG:pZ σ g G)(hV:Ir σ V g B G S)(hT:wI σ T A G S.length D)(au:yK G S)
include P w sh hG hV hT au
theorem ZP{k:Nat}(hk:k<S.length)(q:∀c B9,Ext σ B9->B9 c=some (.list ((SN G D S B.ms k).map .str))->Q (.ref c) B9):J9 W (n+3) (.ref 853) [.ref V,.ref T,C0 k] σ Q:=by
 have zk:k<32768:=D1 hk au.len
 have z0:Sz 32770 (Z2 k):=Sz.Z2 (G6 k) (by lia)
 have hs:S.getD k aA∈S:=B5 (W5 aA hk)
 have zi:(S.getD k aA).items.length<=15:=by rw[au.it _ hs];exact(au.ks _ hs).close.len w
 have Zf:=IR w sh hT.p hk
 have hZ:=QT w sh hT.p hk;delta hZ zg Ze
 refine P.fn tH 66 rfl (ρ:=[.ref V,.ref T,C0 k,.M7,.M7,.M7,.M7,.M7,.M7]) rfl (K1 (bP (F9 (O6 (P2 rfl (H7 (p1 rfl) (CD (Tl zk) (w_add (.lit rfl:Sz 6 _) z0 rfl (F9 (P2 rfl (M0 λ c3 CR=>?_)))))))))))
 have L:Led σ _ [(c3,.list ([DG k,oS ""].map .str))] []:=(Led.start σ).alloc CR _
 generalize Kw:σ.set c3 _=aK
 rw[show σ.set c3 (.list ([DG k,oS ""].map .str))=aK from Kw]at L
 refine Z1 (J1 rfl ((hV.ext L.ext).ob.H2 "items_of" rfl rfl) (p1 rfl) (UG (n:=n+1) P w (hV.ext L.ext) au hk λ ci W9 E2 bb Qu=>Led.keep (L:=[(c3,.list ([DG k,oS ""].map .str))]) (L.adopt E2 bb Qu) λ τ E L2 fZ=>?_))
 have Qu:=fZ _ (.head _)
 have G1:=hG.ext E
 have V1:=hV.ext E
 have T1:=hT.ext E
 clear hG hV hT L fZ
 let I3:List Nat->List Str:=λ pre=>[DG k,oS ""]++pre.map λ m=>oS "    "++zO G B.ms k m
 refine Z0 (λ v=>[.ref V,.ref T,C0 k,.ref c3,v 4,v 5,v 6,v 7,v 8]) (l:=(S.getD k aA).items) (f:=C0) (λ pre _ B9=>Led τ B9 [(c3,.list ((I3 pre).map .str))] []) rfl (qS (L2.ext _ _ Qu) zi rfl) L2 ?_ λ u Y8 L=>?_
 ·intro pre m post u bK R hl L hR
  have hZ:=P5 hl;delta hZ hp hm
  have z1:=Jm (ms:=B.ms) (k:=k) w sh (au.lt hs m hm)
  refine N4 (T0 rfl (N9 (L.get 0 rfl) _) (F9 (O6 (P2 rfl (J1 rfl ((V1.ext L.ext).ob.H2 "show_item" rfl rfl) (I9 rfl (p1 rfl)) (Fq (n:=n) P w sh (G1.ext L.ext) (V1.ext L.ext) au hk hm λ cH E5=>w_add (.lit rfl:Sz 4 _) z1 rfl (M0 (aW 0 (L.grow E5) rfl ?_ λ eK _ L6=>s_end (hR .next _ _ trivial ((L6.ext _ _ Qu).trans (L2.ext _ _ Qu).symm) ?_ rfl)))))))))
  ·rw[A8,B0,A8];show 2+_<=_;lia
  ·show Led τ eK [(c3,.list (([DG k,oS ""]++(pre++[m]).map _).map .str))] _
   rw[Q5,<-C6,Q5];exact L6
 have z3:(I3 (S.getD k aA).items).length<=17:=by
  show([DG k,oS ""]++_).length<=17
  rw[B0,A8];show 2+_<=_;lia
 have e3:I3 (S.getD k aA).items=[DG k,oS ""]++yC G S B.ms k:=rfl
 generalize I3 (S.getD k aA).items=base at L z3 e3
 refine K1 (K7 L rfl λ c5 cH L=>?_)
 refine Z1 (H7 (I9 (D8 rfl ((T1.ob.ext L.ext).fld _)) (p1 (V8 (D8 rfl ((T1.ob.ext L.ext).fld _)) (len_list (L.ext _ _ T1.nm) (A8 _))))) (KJ (Z0 (λ v=>[.ref V,.ref T,C0 k,.ref c3,v 4,.ref c5,v 6,v 7,v 8]) (l:=List.range (G.names.length - G.tc)) (f:=λ i=>C0 (G.tc+i)) (λ pre _ B9=>Led τ B9 [(c3,.list (base.map .str)),(c5,.list ((pre.flatMap (Id G D k)).map wN))] []) rfl (QL w.tc (A9 w.names (by decide))) L ?_ λ u eK L=>?_)))
 ·intro pre i post u eK R hl L hR
  have hZ:=P9 hl;delta hZ hp hi
  have y1:=VC zg pre
  have y2:=w.names
  have y3:pre.length<=10:=by rw[hp,D9];exact DV hi w.names
  have hT:=T1.ext L.ext
  have hZ:=T1.p.HC hk (G.tc+i);delta hZ g1 g2
  rw[Q7,Q2]at hR
  generalize pre.flatMap (Id G D k)=b at L hR y1
  unfold Id at hR
  refine K1 (J1 rfl (hT.ob.H2 "goto" rfl rfl) (I9 rfl (p1 rfl)) (NX (n:=n+1) P hT hk (cZ (t:=decide (D.goal k (G.tc+i)>=0)) (N3 rfl rfl rfl) (λ h=>?_) λ h=>O7 (s_end (hR .next _ _ trivial trivial (by rw[G0 (K6 h),C9];exact L) rfl)))))
  have h:=D0 h
  rw[F7 h]at hR
  refine N4 (T0 rfl (N9 (L.get 1 rfl) _) (F9 (dK (F9 (P2 (I8 (D8 rfl (hT.ob.fld _)) rfl (W8 sD hT.nm (by lia))) (F9 (O6 (P2 rfl (H7 (p1 rfl) (CD (by lia) (w_add (.lit rfl:Sz 12 _) (Sz.Z2 h g1) rfl (M0 (M0 (aW 1 L rfl (by rw[A8];lia) λ eW _ L7=>O7 (s_end (hR .next _ _ trivial trivial ?_ rfl))))))))))))))))
  show Led τ eW [_,(c5,.list (List.map wN (_++[_])))] _
  rw[Q5];exact L7
 refine Z1 (dK (F9 (T5 (F9 (H7 (I9 rfl (p1 rfl)) (Mk (n:=n) P w sh (T1.ext L.ext) au.len hk λ ca dq Ea _ LF _=>M0 (RQ (n:=n+1) P LF Zf λ c6 eW E7 _ ai=>F9 (H7 (p1 rfl) (RQ (n:=n+1) P ((L.grow (Ea.trans E7)).get 1 rfl) Ze λ c7 qB E8 _ ah=>F9 (H7 (I9 rfl (p1 rfl)) (UC (n:=n+1) P (T1.ext ((L.grow (Ea.trans E7)).grow E8).ext) λ c8 IF E9 _ ag=>M0 ?_)))))))))))
 have L:=((L.grow (Ea.trans E7)).grow E8).grow E9
 have Tz:∀p∈[(c6,Y9 (U9 G D k)),(c7,Y9 (iN G D k)),(c8,[])],IF p.1=some (.list (p.2.map .str))∧p.2.length<=64:=λ p hp=>by
  have z:∀l:List (Str×Str),(Y9 l).length=l.length:=λ l=>A8 _
  rcases F8.mp hp with rfl|hp;exact⟨(E8.trans E9) _ _ ai,by rw[z];exact Zf.1⟩
  rcases F8.mp hp with rfl|hp;exact⟨E9 _ _ ah,by rw[z];exact Ze.1⟩
  rewrite[D5.mp hp];exact⟨ag,K3 _⟩
 have ee:SN G D S B.ms k=[(c6,Y9 (U9 G D k)),(c7,Y9 (iN G D k)),(c8,[])].foldl (λ a p=>iZ a p.2) base++[oS ""]:=by rw[e3];show _=iZ (iZ (iZ _ _) _) []++_;rw[An];rfl
 rw[ee]at q
 have lz:[(c6,Y9 (U9 G D k)),(c7,Y9 (iN G D k)),(c8,[])].length<=3:=D7 _
 generalize d0:[(c6,Y9 (U9 G D k)),(c7,Y9 (iN G D k)),(c8,[])]=ls at q Tz lz
 have E0:=E.trans L.ext
 refine Z0 (λ v=>[.ref V,.ref T,C0 k,v 3,v 4,v 5,v 6,v 7,v 8]) (l:=ls) (f:=λ p=>.ref p.1) (λ pre v B9=>∃c,v 3=.ref c∧Ext IF B9∧B9 c=some (.list ((pre.foldl (λ a p=>iZ a p.2) base).map .str))) rfl (d0▸rN (C3 rfl)) ⟨c3,rfl,.refl _,L.get 0 rfl⟩ ?_ ?_
 ·intro pre p post u eK R hl hQ;intros hQ c hZ;delta hZ h3 E1 hc;intro hR
  have hZ:=P5 hl;delta hZ TH hp
  have hZ:=Tz p hp;delta hZ Hw Np
  have zz:=CI (l:=pre) (acc:=base) λ x hx=>(Tz x (hl▸G9 _ hx)).2
  rw[K9]at hR
  generalize pre.foldl (λ a p=>iZ a p.2) base=acc at hc hR zz
  have hR:∀(fl:Fl) (O5:List PV) (B9:PH),fl.go->(∃c,lo O5 3=.ref c∧Ext IF B9∧B9 c=some (.list ((iZ acc p.2).map .str)))->O5=[.ref V,.ref T,C0 k,lo O5 3,lo O5 4,lo O5 5,lo O5 6,lo O5 7,lo O5 8]->R fl O5 B9:=λ fl O5 B9 h1 h2 h3=>hR fl O5 B9 h1 trivial h2 h3
  unfold iZ at hR
  refine iF (iB (P2 rfl (K7 (Led.start eK) rfl λ cl eW L1=>⟨!(p.2.map PV.str).isEmpty,?_,λ h=>?_,λ h=>O7 (s_end (hR .next _ _ trivial ?_ rfl))⟩)))
  ·show Option.map _ (Bi eW (.ref p.1) (.ref cl))=_
   rw[RH (L1.ext _ _ (E1 _ _ Hw)) (L1.get 0 rfl) (uT _)];rfl
  ·have ne:p.2≠[]:=λ e=>by rw[e]at h;cases h
   rw[G0 ne]at hR
   refine K1 (O6 (O6 (P2 (Hj h3 rfl) (K7 L1 rfl λ cm qB L2=>gG L2 (L2.ext _ _ hc) (L2.get 1 rfl) ?_ λ cn iU L3=>P2 rfl (gG L3 (L3.get 2 rfl) ((E1.trans L3.ext) _ _ Hw) ?_ λ co nZ L4=>O7 (s_end (hR .next _ _ trivial ⟨co,rfl,E1.trans L4.ext,?_⟩ rfl)))))))
   ·rw[A8];show _+1<=_;lia
   ·rw[B0,A8,A8];show _+1+_<=_;lia
   ·rw[C1,C1];exact L4.get 3 rfl
  ·have e:p.2=[]:=by
    cases h':p.2 with
    |nil=>rfl
    |cons=>rw[h']at h;cases h
   rw[F7 e]
   exact⟨c,h3,E1.trans L1.ext,L1.ext _ _ hc⟩
 ·intro u eK hQ;intros hQ c hZ;delta hZ h3 E1 hc
  have zz:=CI (l:=ls) (acc:=base) λ x hx=>(Tz x hx).2
  refine W3 (O6 (P2 (Hj h3 rfl) (K7 (Led.start eK) rfl λ cm qB L2=>gG L2 (L2.ext _ _ hc) (L2.get 0 rfl) ?_ λ cn iU L3=>q cn iU (E0.trans (E1.trans L3.ext)) ?_)))
  ·rw[A8];show _+1<=_;lia
  ·rw[C1];exact L3.get 1 rfl
end
abbrev cp(x:Str):List Nat:=x.cps.toList
theorem U1(a b:Str):cp (a++b)=cp a++cp b:=(C7 _ (Str.cps_append a b)).trans Array.toList_append
theorem eF(a:Str):(cp a).length=a.length:=bY
theorem dP(a b c:Str):a++b++c=a++(b++c):=Str.ext2 (by rw[<-cp,<-cp,U1,U1,U1,U1,C6])
theorem LZ(x:Str){i j:Nat}(h:i<=j)(hj:j<=x.length):Txt.slice x (some (i:Int)) (some (j:Int))=⟨(((cp x).drop i).take (j - i)).toArray⟩:=StrLaws.sliceText_nat x h hj
theorem yN(a b:Str):Txt.slice (a++b) (some (a.length:Int)) none=b:=by
 have e:Txt.slice (a++b) (some (a.length:Int)) none=Txt.slice (a++b) (some (a.length:Int)) (some ((a++b).length:Int)):=by unfold Txt.slice;rw[StrLaws.sliceIdx_none_hi]
 rw[e,LZ _ (by rw[R7];exact J6 _ _) (D7 _)]
 refine Str.ext2 ?_
 show((cp (a++b)).drop a.length).take _=cp b
 rw[U1,<-eF a,nX,R7,<-eF a,W0,<-eF b,bZ]
theorem By(a b:Str):Txt.slice (a++b) none (some (a.length:Int))=a:=by
 have e:Txt.slice (a++b) none (some (a.length:Int))=Txt.slice (a++b) (some ((0:Nat):Int)) (some (a.length:Int)):=by unfold Txt.slice;rw[StrLaws.sliceIdx_none_lo];rfl
 rw[e,LZ _ (K3 _) (by rw[R7];exact J6 _ _)]
 refine Str.ext2 ?_
 show((cp (a++b)).drop 0).take _=cp a
 rw[U1,List.drop_zero,Nat.sub_zero,<-eF a,List.take_left]
theorem Jl(a x b:Str)(ha:a.length=1)(hb:b.length=1):Txt.slice (a++x++b) (some 1) (some (-1))=x:=by
 have l:(a++x++b).length=x.length+2:=by rw[R7,R7,ha,hb];lia
 have e:Txt.slice (a++x++b) (some 1) (some (-1))=Txt.slice (a++x++b) (some ((1:Nat):Int)) (some ((x.length+1:Nat):Int)):=by
  unfold Txt.slice
  rw[StrLaws.sliceIdx_neg_hi _ _ (by decide) (by rw[l];lia),l,show -1+((x.length+2:Nat):Int)=((x.length+1:Nat):Int) by lia];rfl
 rw[e,LZ _ (Z9 _ _) (by rw[l];lia)]
 refine Str.ext2 ?_
 show((cp (a++x++b)).drop 1).take _=cp x
 rw[dP,U1,<-ha,<-eF a,nX,U1,eF,ha,Nat.add_sub_cancel,<-eF x,List.take_left]
theorem SE{x y:Str}{hi k c:Nat}(h:StrLaws.At x y hi k){j:Nat}(hc:(cp y)[j]? =some c):(cp x)[k+j]? =some c:=by
 have e:=eq_of_beq ((StrLaws.subAt_eq x y k).symm.trans h.2)
 have VB:y.cps.toList[j]? =some c:=hc
 rw[<-e,List.getElem?_take,List.getElem?_drop]at VB
 split at VB
 ·exact VB
 ·cases VB
theorem HS(a y b:Str):StrLaws.At (a++(y++b)) y (a++(y++b)).length a.length:=by
 refine⟨by rw[R7,R7];lia,?_⟩
 rw[StrLaws.subAt_eq]
 show List.take _ ((cp _).drop _)==cp y
 rw[U1,<-eF a,nX,U1,<-eF y,List.take_left]
 exact O2 _
def Av(c:Nat)(x:Str):Prop:=∀d∈cp x,d≠c
theorem Av.no{c:Nat}{a b y:Str}(h:Av c a)(hy:(cp y)[0]? =some c){hi:Nat}:∀k,k<a.length->¬StrLaws.At (a++b) y hi k:=λ k hk De=>by
 have e:=SE De hy
 rw[U1,Nat.add_zero,I4 (by rw[eF];exact hk)]at e
 exact h _ (B5 e) rfl
theorem YG{a y b:Str}{c:Nat}(h:Av c a)(hy:(cp y)[0]? =some c):Txt.find (a++(y++b)) y=a.length:=by
 rcases find_whole (a++(y++b)) y with⟨_,no⟩|⟨i,e,De,no⟩
 ·exact absurd (HS a y b) (no _)
 ·rw[e]
  rcases qF i a.length with h1|h1|h1
  ·exact absurd De (h.no hy i h1)
  ·rw[h1]
  ·exact absurd (HS a y b) (no _ h1)
theorem SP{a y b:Str}{c:Nat}(h:Av c a)(hy:(cp y)[0]? =some c)(hk:Builtin.Str.strKind y=1):(Txt.split (a++(y++b)) y)[0]? =some a:=by
 have hp:=split_pos (a++(y++b)) y
 have e0:=C4 (show 0<(Txt.split (a++(y++b)) y).length from hp)
 rw[e0]
 refine C7 some ?_
 rcases split_head _ y hk _ e0 with⟨_,no⟩|⟨i,e,De,no⟩
 ·exact absurd (HS a y b) (no _)
 ·have:i=a.length:=by
   rcases qF i a.length with h1|h1|h1
   ·exact absurd De (h.no hy i h1)
   ·exact h1
   ·exact absurd (HS a y b) (no _ h1)
  rw[e,this,strSub_mk]
  refine Str.ext2 ?_
  show((cp (a++(y++b))).drop 0).take _=cp a
  rw[U1,List.drop_zero,Nat.sub_zero,<-eF a,List.take_left]
def Hd(x:Str):Prop:=∃c t,cp x=c::t∧Unicode.isSpace c=false
def Ls(x:Str):Prop:=∃c t,cp x=t++[c]∧Unicode.isSpace c=false
theorem Hd.app{a b:Str}(h:Hd a):Hd (a++b):=let⟨c,t,e,s⟩:=h;⟨c,t++cp b,by rw[U1,e];rfl,s⟩
theorem Ls.app{a b:Str}(h:Ls b):Ls (a++b):=let⟨c,t,e,s⟩:=h;⟨c,cp a++t,by rw[U1,e,C6],s⟩
theorem pN{a m:Str}(ha:∀c∈cp a,Unicode.isSpace c=true)(h1:Hd m)(h2:Ls m):Txt.strip (a++m)=m:=by
 intros h1 c t hZ;delta hZ e1 s1
 intros h2 d u hZ;delta hZ e2 s2
 have lo:stripLo Unicode.isSpace true (a++m)=(cp a).length:=by
  show((cp (a++m)).takeWhile Unicode.isSpace).length=_
  rw[U1,List.takeWhile_append_of_pos ha,e1,List.takeWhile_cons_of_neg (by rw[s1];exact C5),C9]
 have hi:stripHi Unicode.isSpace true (a++m) (cp a).length=(a++m).length:=by
  show _ - (((cp (a++m)).drop (cp a).length).reverse.takeWhile Unicode.isSpace).length=_
  rw[U1,nX,e2,List.reverse_append]
  show _ - ((d::u.reverse).takeWhile Unicode.isSpace).length=_
  rw[List.takeWhile_cons_of_neg (by rw[s2];exact C5)];rfl
 unfold Txt.strip
 rw[PyProof.Rows.stripBy_eq,lo,hi,strSub_mk]
 refine Str.ext2 ?_
 show((cp (a++m)).drop _).take _=cp m
 rw[U1,nX,R7,eF,W0,<-eF m,bZ]
theorem LW{m:Str}(h1:Hd m)(h2:Ls m):Txt.strip m=m:=by
 have:=pN (a:=Str.empty) (λ _ h=>nomatch h) h1 h2
 rwa [KT.empty_app]at this
theorem RK(n:Nat):(∀c∈cp (Z2 n),And (48<=c) (c<=57))∧cp (Z2 n)≠[]:=by
 refine⟨λ c hc=>?_,λ e=>?_⟩
 ·rw[cp,Z2,Str.ofString_eq_toList]at hc
  refine A0 (D2.mp hc) λ ch hZ=>?_;generalize hZ.1=h;clear hc;obtain rfl:=hZ.2;try clear hZ
  have h:ch∈(Nat.repr n).toList:=h
  rw[Nat.toList_repr]at h
  have h:=Nat.isDigit_of_mem_toDigits (by decide) (by decide) h
  simp only[Char.isDigit,W2,P8]at h
  exact⟨UInt32.le_iff_toNat_le.mp h.1,UInt32.le_iff_toNat_le.mp h.2⟩
 ·have:=KLn.one_le (n:=(n:Int)) (G6 n)
  rw[<-eF,e]at this
  exact absurd this (by decide)
theorem Zl{c:Nat}(h:And (33<=c) (c<127)):Unicode.isSpace c=false:=KXs.no_space c h.2 h.1
theorem Qz{x:Str}(h:∀c∈cp x,And (33<=c) (c<127))(ne:cp x≠[]):Hd x:=by
 unfold Hd
 cases e:cp x with
 |nil=>exact absurd e ne
 |cons c t=>exact⟨c,t,rfl,Zl (h c (e▸.head _))⟩
theorem Qd{x:Str}(h:∀c∈cp x,And (33<=c) (c<127))(ne:cp x≠[]):Ls x:=
 ⟨(cp x).getLast ne,(cp x).dropLast,(List.dropLast_concat_getLast ne).symm,Zl (h _ (List.getLast_mem ne))⟩
theorem QX{x:Str}(h:∀c∈cp x,And (33<=c) (c<127)):Av 32 x:=λ d hd e=>by have:=(h d hd).1;lia
theorem RJ(n:Nat):∀c∈cp (Z2 n),And (33<=c) (c<127):=λ c hc=>by have:=(RK n).1 c hc;lia
structure Wo(x:Str):Prop where
 ch:∀c∈cp x,And (33<=c) (c<127)
 ne:cp x≠[]
theorem VF{x:Str}(h:(cp x).all (λ c=>decide (And (33<=c) (c<127)))=true)(h':(cp x).isEmpty=false):Wo x:=⟨λ c hc=>D0 (G3.mp h c hc),λ e=>by rw[e]at h';cases h'⟩
theorem Wo.hd{x:Str}(h:Wo x):Hd x:=Qz h.ch h.ne
theorem Wo.ls{x:Str}(h:Wo x):Ls x:=Qd h.ch h.ne
theorem yL(n:Nat):Wo (Z2 n):=⟨RJ n,(RK n).2⟩
structure VD(G:Gr):Prop where
 nd:G.names.Nodup
 wo:∀x∈G.names,Wo x
 sz:Short G
 df:oS "$default"∉G.names
theorem VD.at{G:Gr}(h:VD G){s:Nat}(hs:s<G.names.length):Wo (aO G s)∧aO G s≠oS "$default":=by
 have:=B5 (W5 (l:=G.names) sD hs)
 exact⟨h.wo _ this,λ e=>h.df (e▸this)⟩
theorem VD.inj{G:Gr}(h:VD G){s t:Nat}(hs:s<G.names.length)(ht:t<G.names.length)(e:aO G s=aO G t):s=t:=by
 have h1:=W5 (l:=G.names) sD hs
 have h2:=W5 (l:=G.names) sD ht
 exact(List.getElem?_inj hs h.nd).mp (h1.trans ((C7 some e).trans h2.symm))
theorem QG{s:Str}:∀{l:List Str},l≠[]->(∀x∈l,Ls x)->Ls (Str.join s l)
 |[],h,_=>absurd rfl h
 |[x],_,h=>h x (.head _)
 |x::y::l,_,h=>Ls.app (QG (sM y l) λ z hz=>h z (.tail _ hz))
theorem Ho:Ls (oS "]"):=⟨93,[],rfl,rfl⟩
theorem Jn{G:Gr}(w:G.Wf)(nm:VD G){ms:List (PK×PV)}{k m:Nat}(h:m<G.aR.length):Hd (zO G ms k m)∧Ls (zO G ms k m):=by
 have hd:Hd (NG G m):=Hd.app (Hd.app (yL _).hd)
 have ru:=B5 (Gr.tE w (tC h))
 have ls:Ls (NG G m):=Ls.app (Ls.app (QG (List.append_ne_nil_of_right_ne_nil _ (sM _ _)) λ x hx=>by
  have hw:∀y∈(G.rules.getD (G.S6 m) oE).right.map (aO G),Ls y:=λ y hy=>by
   refine A0 (D2.mp hy) λ s hZ=>?_;generalize hZ.1=hs;clear hy;obtain rfl:=hZ.2;try clear hZ
   exact(nm.at (w.sym _ ru s hs)).1.ls
  rcases G8.mp hx with hx|hx
  ·exact hw x (List.mem_of_mem_take hx)
  ·rcases F8.mp hx with rfl|hx
   ·exact⟨46,[],rfl,rfl⟩
   ·exact hw x (kI hx)))
 unfold zO
 split
 ·exact⟨Hd.app (Hd.app (Hd.app hd)),Ls.app Ho⟩
 ·exact⟨hd,ls⟩
theorem pO{x y:Str}{c d:Nat}(hx:(cp x)[0]? =some c)(hy:(cp y)[0]? =some d)(ne:c≠d):Txt.startswith x y=false:=by
 cases h:Txt.startswith x y with
 |false=>rfl
 |true=>
  have hZ:=F0.mp h;delta hZ h1 h2
  have:=SE (hi:=x.length) ⟨D0 h1,h2⟩ hy
  rw[Nat.add_zero,hx]at this
  exact absurd (H1 this) ne
theorem dG{a b:Str}{c:Nat}(h:(cp a)[0]? =some c):(cp (a++b))[0]? =some c:=by
 rw[U1,I4 (D3.mp h).1,h]
structure dj(x:Str)(z:Int):Prop where
 c0:∃c,(cp x)[0]? =some c∧c≠103∧c≠91∧Unicode.isSpace c=false
 ls:Ls x
theorem Ra{x:Str}{c:Nat}(h:(cp x)[0]? =some c)(s:Unicode.isSpace c=false):Hd x:=by
 unfold Hd
 cases e:cp x with
 |nil=>rw[e]at h;cases h
 |cons d t=>rw[e]at h;cases h;exact⟨_,t,rfl,s⟩
theorem Yh{G:Gr}{R:Nat}{z:Int}(hz:Cell R z)(h0:z≠0):dj (bS G z) z:=by
 unfold bS
 split
 ·exact⟨⟨97,rfl,by decide,by decide,rfl⟩,⟨116,[97,99,99,101,112],rfl,rfl⟩⟩
 ·split
  ·rename_i h
   refine A0 (cB (Int.le_of_lt h)) λ n hZ=>?_;clear h hz;obtain rfl:=hZ
   exact⟨⟨115,dG rfl,by decide,by decide,rfl⟩,Ls.app (yL n).ls⟩
  ·rename_i h
   rw[F7 (by lia)]
   exact⟨⟨114,dG (dG (dG (dG rfl))),by decide,by decide,rfl⟩,Ls.app ⟨41,[],rfl,rfl⟩⟩
structure Od(p:Str×Str):Prop where
 nm:Wo p.1
 hd:Hd p.2
 ls:Ls p.2
def IU(w:Int)(p:Str×Str):Str:=Txt.ljust p.1 w++oS "  "++p.2
def cellOf(x:Str):Str×Str:=(Txt.slice x none (some (Txt.find x (oS "  "))),Txt.strip (Txt.slice x (some (Txt.find x (oS "  "))) none))
theorem IS{w:Int}{p:Str×Str}(h:Od p):Txt.strip (IT w p)=IU w p:=by
 have e:IT w p=oS "    "++IU w p:=by unfold IT IU;rw[dP,dP,<-dP (Txt.ljust p.1 w)]
 rw[e]
 refine pN (λ c hc=>?_) ?_ (Ls.app h.ls)
 ·rewrite[bH (n:=4) (a:=32) hc];rfl
 ·unfold IU;rw[BF];exact Hd.app (Hd.app (Hd.app h.nm.hd))
theorem ZF(k:Nat):cp (Gc k)=List.replicate k 32:=Array.toList_replicate
theorem ZL{w:Int}{p:Str×Str}(h:Od p):cellOf (IU w p)=p:=by
 have e:IU w p=p.1++(oS "  "++(Gc (w.toNat - p.1.length)++p.2)):=by
  unfold IU
  rw[BF,dP,dP]
  refine C7 (p.1++·) (Str.ext2 ?_)
  show cp _=cp _
  rw[U1,U1,U1,U1,ZF,<-C6,<-C6]
  refine C7 (·++cp p.2) ?_
  show List.replicate _ 32++List.replicate 2 32=List.replicate 2 32++List.replicate _ 32
  rw[List.replicate_append_replicate,List.replicate_append_replicate,aE]
 have f:=YG (b:=Gc (w.toNat - p.1.length)++p.2) (y:=oS "  ") (QX h.nm.ch) rfl
 unfold cellOf
 rw[e,f,By,yN]
 refine kG rfl ?_
 show Txt.strip _=p.2
 rw[<-dP]
 refine pN (λ c hc=>?_) h.hd h.ls
 rw[U1,ZF]at hc
 have:c=32:=(G8.mp hc).elim (bH (n:=2)) bH
 rw[this];rfl
theorem r7:Builtin.Str.strKind (oS " ")=1:=by decide+kernel
section
variable{W:Wd}(P:dQ W){n:Nat}{σ:PH}{Q:PV->PH->Prop}
include P
theorem wA{G:Gr}(w:G.Wf)(sh:Short G){z:Int}(hz:Cell G.rules.length z)(h0:z≠0)(q:∀B9,Ext σ B9->Q (.int z) B9):J9 W (n+1) (.ref 898) [.str (bS G z)] σ Q:=by
 have zz:=uK w sh hz
 refine P.fn EE 73 rfl (ρ:=[.str (bS G z)]) rfl ?_
 unfold bS at zz ⊢
 by_cases c1:z=1048576
 ·rw[F7 c1]
  exact cZ (t:=true) (N3 rfl rfl rfl) (λ _=>qR (P2 rfl (c1▸q σ (.refl σ)))) λ h=>nomatch h
 ·rw[G0 c1]at zz ⊢
  have hz:=hz.resolve_left c1
  have ng:∀{x:Str} {c:Nat},(cp x)[0]? =some c->c≠97->x=oS "accept"->False:=λ h ne e=>by rw[e]at h;exact ne (H1 h).symm
  by_cases c2:z>0
  ·rw[F7 c2]
   refine A0 (cB (Int.le_of_lt c2)) λ i hZ=>?_;clear zz;obtain rfl:=hZ
   refine cZ (t:=decide (oS "shift, and go to state "++Z2 (i:Nat)=oS "accept")) (N3 rfl rfl rfl) (λ h=>(ng (dG (c:=115) rfl) (by decide) (D0 h)).elim) λ _=>O7 (iF (PC (J1 rfl (dN rfl) (p1 rfl) (cD ⟨_,rfl,λ _=>qR ?_,λ h=>?_⟩))))
   ·refine T5 (F9 (rB rfl (V8 rfl rfl) rfl rfl rfl (M0 ?_)))
    rw[show Txt.slice _ _ _=_ from yN (oS "shift, and go to state ") (Z2 (i:Nat))]
    exact Ag (G6 i) (by lia) (q σ (.refl σ))
   ·rw[show Txt.startswith _ _=_ from KT.starts_app _ _]at h;cases h
  ·rw[G0 c2]at zz ⊢
   have c3:z<0:=by lia
   rw[F7 c3]at zz ⊢
   clear P c3 h0 sh;obtain⟨i,rfl⟩:∃i:Nat,z= -(i:Int):=⟨(-z).toNat,by lia⟩
   rw[Int.neg_neg]at zz ⊢
   have ex:oS "reduce using rule "++Z2 i++oS " ("++aO G (G.rules.getD ((i:Int)).toNat oE).left++oS ")"=oS "reduce using rule "++(Z2 i++(oS " "++(oS "("++aO G (G.rules.getD ((i:Int)).toNat oE).left++oS ")"))):=by
    refine Str.ext2 ?_
    show cp _=cp _
    rw[U1,U1,U1,U1,U1,U1,U1,U1,U1,C6,C6,C6];rfl
   rw[ex]at zz ⊢
   generalize oS "("++aO G (G.rules.getD ((i:Int)).toNat oE).left++oS ")"=b at zz ⊢
   have z1:(Z2 i++(oS " "++b)).length<=33000:=by
    have:(oS "reduce using rule "++(Z2 i++(oS " "++b))).length<=33000:=zz
    rw[R7]at this
    exact A9 (Z9 _ _) this
   refine cZ (t:=decide (oS "reduce using rule "++(Z2 i++(oS " "++b))=oS "accept")) (N3 rfl rfl rfl) (λ h=>(ng (dG (c:=114) rfl) (by decide) (D0 h)).elim) λ _=>O7 (iF (PC (J1 rfl (dN rfl) (p1 rfl) (cD ⟨_,rfl,λ h=>?_,λ _=>O7 (iF (PC (J1 rfl (dN rfl) (p1 rfl) (cD ⟨_,rfl,λ _=>qR ?_,λ h=>?_⟩))))⟩))))
   ·rw[show Txt.startswith _ _=_ from pO (c:=114) (d:=115) (dG rfl) rfl (by decide)]at h;cases h
   ·refine O6 (P2 rfl (T5 (F9 (v_sub (FT (rB rfl (V8 rfl rfl) rfl rfl rfl ⟨_,dN rfl,F9 (P2 rfl (M0 ?_))⟩))))))
    rw[show Txt.slice _ _ _=_ from yN (oS "reduce using rule ") (Z2 i++(oS " "++b))]
    refine s_split (by decide) (A9 z1 (by decide)) (λ p hp=>A9 (part_short hp) (A9 z1 (by decide))) (A9 (split_le _ _) (A9 (Nat.add_le_add_right z1 2) (by decide))) λ c hc=>P2 rfl ⟨_,I0 (k:=0) (PH.J7 ..) (V5 (SP (c:=32) (QX (RJ i)) rfl r7)),M0 (Ag (G6 i) (by have:=w.rules;lia) ?_)⟩
    show Q (.int (0 - (i:Int))) _
    rw[Int.zero_sub];exact q _ (Ext.new hc _)
   ·rw[show Txt.startswith _ _=_ from KT.starts_app _ _]at h;cases h
theorem Fu{a:Addr}{l:List Str}(ha:σ a=some (.list (l.map .str)))(hl:l.length<=64)(q:∀c B9,Ext σ B9->σ c=none->B9 c=some (.list ((l.map cellOf).map wN))->Q (.ref c) B9):J9 W (n+1) (.ref 891) [.ref a] σ Q:=by
 refine P.fn wW 72 rfl (ρ:=[.ref a,.M7,.M7,.M7]) rfl (K1 (K7 (Led.start σ) rfl λ c aK L0=>?_))
 refine eY (λ v=>[.ref a,.ref c,v 2,v 3]) (l:=l) (f:=.str) (λ pre _ B9=>Led σ B9 [(c,.list ((pre.map cellOf).map wN))] []) rfl rfl (qS (L0.ext _ _ ha) hl rfl) L0 ?_ λ u B9 L=>X7 rfl (q c B9 L.ext (L.new _ (.head _)) (L.get 0 rfl))
 intro pre x post u W9 R fM L hR
 have hZ:=P5 fM;delta hZ hp
 refine K1 (J1 rfl (dN rfl) (p1 rfl) (Jr (N4 (T0 rfl (N9 (L.get 0 rfl) _) (F9 (dK (F9 (rB rfl rfl rfl rfl rfl (F9 (FT (rB rfl rfl rfl rfl rfl ⟨_,dN rfl,M0 (PM (M0 (M0 (aW 0 L rfl (by rw[A8,A8];lia) λ Y8 _ L3=>s_end (hR .next _ _ trivial ((L3.ext _ _ ha).trans (L0.ext _ _ ha).symm) ?_ rfl)))))⟩)))))))))))
 rw[Q5,Q5];exact L3
end
def GJ(acc:List (List Str))(x:Str):List (List Str):=if x=oS "" then acc++[[]]else acc.dropLast++[acc.getLastD []++[Txt.strip x]]
def partsOf(l:List Str):List (List Str):=(l.foldl GJ [[]]).filter λ p=>!p.isEmpty
theorem yO(acc:List (List Str)):GJ acc (oS "")=acc++[[]]:=F7 rfl
theorem AD{acc:List (List Str)}{l:List Str}{x:Str}(h:x≠oS ""):GJ (acc++[l]) x=acc++[l++[Txt.strip x]]:=by
 unfold GJ
 rw[G0 h,List.dropLast_concat,List.getLastD_eq_getLast?,List.getLast?_concat];rfl
section
variable{W:Wd}(P:dQ W){n:Nat}{σ:PH}{Q:PV->PH->Prop}
include P
theorem Fj{a:Addr}{l:List Str}(ha:σ a=some (.list (l.map .str)))(hl:l.length<=1000)(q:∀c B9 (ps:List (Addr×List Str)),Ext σ B9->B9 c=some (.list (ps.map λ p=>.ref p.1))->(∀p∈ps,B9 p.1=some (.list (p.2.map .str)))->ps.map (·.2)=partsOf l->Q (.ref c) B9):J9 W (n+1) (.ref 884) [.ref a] σ Q:=by
 refine P.fn wU 71 rfl (ρ:=[.ref a,.M7,.M7]) rfl (K1 (bP (F9 (bP (M0 λ c0 h0=>M0 λ c1 h1=>?_)))))
 have L0:Led σ _ ([]++[(c0,PO.list [])]++[(c1,.list [.ref c0])]) []:=((Led.start σ).alloc h0 (.list [])).alloc h1 _
 have L0:=L0.perm (L':=[(c1,.list [.ref c0]),(c0,PO.list [])]) (R':=[]) (.swap ..)
 generalize (σ.set c0 _).set c1 _=aK at L0 ⊢
 let I:List Str->PH->Prop:=λ pre B9=>∃(τ:PH) (qs:List (Addr×List Str)) (b:Addr) (x:List Str),Ext σ τ∧(∀p∈qs,τ p.1=some (.list (p.2.map .str)))∧qs.map (·.2)++[x]=pre.foldl GJ [[]]∧qs.length<=pre.length∧x.length<=pre.length∧Led τ B9 [(c1,.list (qs.map (λ p=>PV.ref p.1)++[PV.ref b])),(b,.list (x.map .str))] []
 refine eY (λ v=>[.ref a,.ref c1,v 2]) (l:=l) (f:=.str) (λ pre _ B9=>I pre B9) rfl rfl (qS (L0.ext _ _ ha) hl rfl) ⟨σ,[],c0,[],.refl _,λ _ h=>(nomatch h),rfl,D7 _,D7 _,L0⟩ ?_ ?_
 ·intro pre y post u W9 R fM hQ;intros hQ τ hZ;intros hZ qs Q0;intros Q0 b P4;intros P4 x fT;delta fT E hq e z1 z2 L;intro hR
  have hZ:=P5 fM;delta hZ hp
  have st:∀{B9},Ext τ B9->M9 aK (.ref a) B9:=λ E'=>(E' _ _ (E _ _ ha)).trans (L0.ext _ _ ha).symm
  have hI:∀{B9},(∃(τ:PH) (qs:List (Addr×List Str)) (b:Addr) (x:List Str),Ext σ τ∧(∀p∈qs,τ p.1=some (.list (p.2.map .str)))∧qs.map (·.2)++[x]=GJ (pre.foldl GJ [[]]) y∧qs.length<=pre.length+1∧x.length<=pre.length+1∧Led τ B9 [(c1,.list (qs.map (λ p=>PV.ref p.1)++[PV.ref b])),(b,.list (x.map .str))] [])->I (pre++[y]) B9:=λ h=>by
   show ∃(τ:_) (qs b x:_),_
   rw[K9,B0];exact h
  rw[<-e]at hI
  refine cZ (t:=decide (y=oS "")) (N3 rfl rfl rfl) (λ h=>?_) λ h=>?_
  ·clear L0 P h0 ha fM post;obtain rfl:=D0 h
   rw[yO]at hI
   refine N4 (T0 rfl (N9 (L.get 0 rfl) _) (F9 (bP (M0 λ b' Dd=>M0 ?_))))
   have L1:=L.alloc Dd (.list [])
   generalize W9.set b' _=Y8 at L1 ⊢
   refine aW 0 L1 rfl (by rw[B0,A8];show _+1<=_;lia) λ bK _ L2=>?_
   have L2:Led τ bK ([(c1,.list (qs.map (λ p=>PV.ref p.1)++[PV.ref b]++[PV.ref b'])),(b',.list [])]++[(b,.list (x.map .str))]) []:=L2.perm (.cons _ (.swap ..))
   refine L2.keep λ IE E1 L3 fZ=>O7 (s_end (hR .next _ _ trivial (st (E1.trans L3.ext)) (hI ⟨IE,qs++[(b,x)],b',[],E.trans E1,T8 (λ p hp=>E1 _ _ (hq p hp)) (fZ _ (.head _)),?_,?_,K3 _,?_⟩) rfl))
   ·exact C7 (·++[[]]) (Q5 ..)
   ·rw[B0];exact O1 z1
   ·rw[Q5];exact L3
  ·rw[AD (K6 h)]at hI
   refine N4 (T0 (I8 rfl (xB rfl) (DW (L.get 0 rfl))) (N9 (L.get 1 rfl) _) (F9 (J1 rfl (dN rfl) rfl (PM (M0 (aW 1 L rfl (by rw[A8];lia) λ Y8 _ L3=>O7 (s_end (hR .next _ _ trivial (st L3.ext) (hI ⟨τ,qs,b,x++[Txt.strip y],E,hq,rfl,Z5 z1,?_,?_⟩) rfl))))))))
   ·rw[B0];exact O1 z2
   ·rw[Q5];exact L3
 ·intro u W9 hQ;intros hQ τ hZ;intros hZ qs Q0;intros Q0 b P4;intros P4 x fT;delta fT E hq e z1 z2 L
  have Lk:∀p∈qs++[(b,x)],W9 p.1=some (.list (p.2.map .str)):=T8 (λ p hp=>L.ext _ _ (hq p hp)) (L.get 1 rfl)
  have h1:W9 c1=some (.list ((qs++[(b,x)]).map λ p=>PV.ref p.1)):=by rw[Q5];exact L.get 0 rfl
  have e:(qs++[(b,x)]).map (·.2)=l.foldl GJ [[]]:=by rw[Q5];exact e
  have zz:(qs++[(b,x)]).length<=1001:=by rw[B0];exact O1 (A9 z1 hl)
  have E:=E.trans L.ext
  clear L hq
  generalize qs++[(b,x)]=ps at Lk h1 e zz
  refine W3 (jF (P2 rfl (lJ (l:=ps) (f:=λ p=>.ref p.1) (g:=λ p=>.ref p.1) (p:=λ p=>!p.2.isEmpty) (qS h1 zz rfl) (iC h1) (λ p hp Y8 E3 R k1 k2=>⟨[.ref p.1],rfl,iB (P2 rfl (K7 (Led.start Y8) rfl λ cl bK L4=>⟨!(p.2.map PV.str).isEmpty,?_,?_⟩))⟩) λ Y8 E3 c hc=>?_)))
  ·show Option.map _ (Bi bK (.ref p.1) (.ref cl))=_
   rw[RH ((E3.trans L4.ext) _ _ (Lk p hp)) (L4.get 0 rfl) (uT _)];rfl
  ·cases e5:p.2 with
   |nil=>rw[e5]at k2;exact k2 rfl _ L4.ext
   |cons y r=>rw[e5]at k1;exact P2 rfl (k1 rfl _ L4.ext)
  ·refine q c _ (ps.filter λ p=>!p.2.isEmpty) ((E.trans E3).trans (Ext.new hc _)) (PH.J7 ..) (λ p hp=>(E3.trans (Ext.new hc _)) _ _ (Lk p (J5.mp hp).1)) ?_
   unfold partsOf
   rw[<-e,List.filter_map];rfl
end
abbrev Ow:=List (Str×Addr×List Str)
structure Ng(σ:PH)(o:Addr)(os:Ow):Prop where
 l:σ o=some (.list (os.map λ p=>.tup [.str p.1,.ref p.2.1]))
 r:∀p∈os,σ p.2.1=some (.list (p.2.2.map .str))
theorem Ng.ext{σ B9:PH}(E:Ext σ B9){o:Addr}{os:Ow}(h:Ng σ o os):Ng B9 o os:=⟨E _ _ h.l,λ p hp=>E _ _ (h.r p hp)⟩
def Ur(G:Gr)(os:Ow):Prop:=∀i,i<G.rules.length->∃a,os[i]? =some (aO G (G.rules.getD i oE).left,a,(G.rules.getD i oE).right.map (aO G))
theorem join_cons{s x y:Str}{l:List Str}:Str.join s (x::y::l)=x++s++Str.join s (y::l):=rfl
def Ku(G:Gr)(i d:Nat):Str:=Z2 i++oS " "++uY G i d
theorem Cw{G:Gr}{i d:Nat}:Str.join (oS " ") ([Z2 i,aO G (G.rules.getD i oE).left,oS ":"]++Az G i d)=Ku G i d:=by
 have ne:Az G i d≠[]:=List.append_ne_nil_of_right_ne_nil _ (sM _ _)
 unfold Ku uY
 cases e:Az G i d with
 |nil=>exact absurd e ne
 |cons x l=>
  show Str.join (oS " ") (Z2 i::aO G (G.rules.getD i oE).left::oS ":"::x::l)=_
  rw[join_cons,join_cons,join_cons]
  refine Str.ext2 ?_
  show cp _=cp _
  simp only[U1,C6];rfl
section
variable{W:Wd}{n:Nat}{σ:PH}{ρ:List PV}{e:PE}{K:Fl->List PV->PH->Prop}{Q:PV->PH->Prop}
theorem Cb{r:V0}{is:List Nat}(h:(wp W tb n e).v ρ σ λ x B4=>∃xs,x=.tup xs∧xs.length=is.length∧S8 W tb n r (aN is xs ρ) B4 K):S8 W tb n (.cons (.pJ is e) r) ρ σ K:=h
theorem AY{d:Nat}(h:d<=1000):DA (some (d:Int))=true:=by
 unfold DA
 rw[P8]
 exact⟨G6 d,Int.lt_of_lt_of_le (T7.mpr (hM h)) (by decide)⟩
theorem LM{C8:PH}{L R:List (Addr×PO)}(hL:Led C8 σ L R){o lo hi:PE}{a:Addr}{xs:List PV}{y z:PV}{l h:Option Int}(ho:pv σ ρ o=some (.ref a))(ha:σ a=some (.list xs))(hl:pv σ ρ lo=some y)(hh:pv σ ρ hi=some z)(bl:Fy y=some l)(bh:Fy z=some h)(nl:DA l=true)(nh:DA h=true)(hz:xs.length<=2^24)
  (k:∀c B9,Led C8 B9 (L++[(c,.list (fD xs l h))]) R->Q (.ref c) B9):(wp W tb n (.wP o lo hi)).v ρ σ Q:=
 X4 o ho (X4 lo hl (X4 hi hh ⟨xs,l,h,.inl ha,bl,bh,nl,nh,hz,Qj hL k⟩))
end
section
variable{W:Wd}(P:dQ W){n:Nat}{σ:PH}{o:Addr}{os:Ow}{G:Gr}{Q:PV->PH->Prop}(w:G.Wf)(sh:Short G)(hO:Ng σ o os)(oG:Ur G os)
include P w sh hO oG
theorem Fp{i d:Nat}(hi:i<G.rules.length)(hd:d<=(G.rules.getD i oE).right.length)(q:∀B9,Ext σ B9->Q (.str (Ku G i d)) B9):J9 W (n+1) (.ref 905) [.ref o,C0 i,C0 d] σ Q:=by
 refine A0 (oG i hi) λ a ho=>?_
 have ha:=hO.r _ (B5 ho)
 have hr:=w.len _ (B5 (Gr.tE w hi))
 have hZ:=LK (d:=d) w sh hi;delta hZ z1 z2
 have z0:Sz 32770 (Z2 i):=Sz.Z2 (G6 i) (by have:=w.rules;lia)
 rw[<-Cw]at q
 have ew:Az G i d=((G.rules.getD i oE).right.map (aO G)).take d++oS "."::((G.rules.getD i oE).right.map (aO G)).drop d:=rfl
 have lw:((G.rules.getD i oE).right.map (aO G)).length<=3:=by rw[A8];exact hr
 have ld:d<=3:=A9 hd hr
 generalize (G.rules.getD i oE).right.map (aO G)=ws at ha ew lw ho
 have zl:=sh.nm (G.rules.getD i oE).left
 generalize aO G (G.rules.getD i oE).left=lf at ho q zl
 refine P.fn mY 74 rfl (ρ:=[.ref o,C0 i,C0 d,.M7,.M7]) rfl (WB (I8 rfl rfl (I0 hO.l (V5 ho))) rfl (W3 (T0 rfl (dN rfl) (F9 (O6 (O6 (O6 (bP (F9 (H7 (p1 rfl) (CD (Tl (D1 hi (A9 w.rules (C3 rfl)))) (F9 (P2 rfl (F9 (P2 rfl (M0 λ c1 h1=>?_))))))))))))))))
 have L:Led σ _ [(c1,.list [.str (Z2 i),.str lf,.str (oS ":")])] []:=(Led.start σ).alloc h1 _
 generalize Kw:σ.set c1 _=aK
 rw[show σ.set c1 (.list [.str (Z2 i),.str lf,.str (oS ":")])=aK from Kw]at L
 have zw:(ws.map PV.str).length<=2^24:=by rw[A8];exact A9 lw (by decide)
 have e1:fD (ws.map PV.str) none (some (d:Int))=(ws.take d).map .str:=List.map_take.symm
 have e2:fD (ws.map PV.str) (some (d:Int)) none=(ws.drop d).map .str:=(C7 (List.drop d) (bZ (l:=ws.map PV.str))).trans List.map_drop.symm
 have zt:(ws.take d).length<=3:=by rw[Y1];lia
 have zd:(ws.drop d).length<=3:=by rw[U7];lia
 refine LM L rfl (L.ext _ _ ha) rfl rfl rfl rfl rfl (AY (A9 ld (by decide))) zw λ c2 W9 L=>?_
 rw[e1]at L
 refine gG L (L.get 0 rfl) (L.get 1 rfl) (by rw[A8];show 3+_<=_;lia) λ c3 Y8 L=>K7 L rfl λ c4 bK L=>gG L (L.get 2 rfl) (L.get 3 rfl) (by rw[B0,A8];show 3+_+1<=_;lia) λ c5 cH L=>LM L rfl (L.ext _ _ ha) rfl rfl rfl rfl (AY (A9 ld (by decide))) rfl zw λ c6 eK L=>?_
 rw[e2]at L
 refine gG L (L.get 4 rfl) (L.get 5 rfl) (by rw[B0,B0,A8,A8];show 3+_+1+_<=_;lia) λ c7 eW L=>M0 ?_
 refine HR (l:=[Z2 i,lf,oS ":"]++Az G i d) (k:=7) (b:=32770) ((L.get 6 rfl).trans ?_) (.lit rfl:Sz 1 _) (λ y hy=>?_) ?_ rfl λ _=>q _ L.ext
 ·rw[ew,C1,C1,I6,C6,C6];rfl
 ·clear L P c7 e1 e2 ew h1 hO ha hd hi ho hr ld lw oG os q sh w zd zt zw eW;clear L;rcases G8.mp hy with hy|hy
  ·clear L c6 eK;clear L;rcases F8.mp hy with rfl|hy
   ·exact z0
   clear L c5 z0 cH;clear L;rcases F8.mp hy with rfl|hy
   ·exact zl.mono (by decide)
   ·rewrite[D5.mp hy];exact .lit rfl
  ·exact(z2 y hy).mono (by decide)
 ·rw[B0];exact bV z1 3
end
theorem Mr(m s:Nat):decide (Int.fmod (Int.fdiv (m:Int) ((2^s:Nat):Int)) 2=1)=(m/2^s%2==1):=by
 rw[nY _ (G6 _),Int.fmod_eq_emod_of_nonneg _ (by decide),<-zA];rfl
theorem XY{G:Gr}{m:Nat}(h:m<G.aR.length):full G m=(decide ((0:Int)<G.S6 m)&&decide ((G.rT m:Int)=((G.rules.getD (G.S6 m) oE).right.length:Nat))):=by
 have it:=Gr.it h
 have e:G.rules.getD (G.S6 m) oE=G.PR m:=rfl
 rw[e]
 unfold full
 congr 1
 ·rw[eN];lia
 ·rw[fY,eT,P8,it.OG,eU]
  have:=it.dot
  lia
section
variable{W:Wd}(P:dQ W){n:Nat}{σ:PH}{V g o pa:Addr}{B:Oa}{G:Gr}{S:List St}{os:Ow}{Q:PV->PH->Prop}(w:G.Wf)(sh:Short G)(hG:pZ σ g G)(hV:Ir σ V g B G S)(au:yK G S)(hO:Ng σ o os)(oG:Ur G os)
include P w sh hG hV au hO oG
theorem NV{k:Nat}(hk:k<S.length)(hp:σ pa=some (.list (((S.getD k aA).items.map (zO G B.ms k)).map .str)))(q:∀B9,Ext σ B9->Q (.bool true) B9):J9 W (n+2) (.ref 910) [.ref V,.ref o,C0 k,.ref pa] σ Q:=by
 have hs:S.getD k aA∈S:=B5 (W5 aA hk)
 have zi:(S.getD k aA).items.length<=15:=by rw[au.it _ hs];exact(au.ks _ hs).close.len w
 refine P.fn mX 75 rfl (ρ:=[.ref V,.ref o,C0 k,.ref pa,.M7,.M7,.M7,.M7,.M7,.M7,.M7,.M7]) rfl (P3 (D8 rfl (hV.ob.fld _)) (K1 (K7 (Led.start σ) rfl λ c aK L0=>?_)))
 have Te:=(hV.ia.at hk)
 refine eY (λ v=>[.ref V,.ref o,C0 k,.ref pa,.ref g,.ref c,v 6,v 7,v 8,v 9,v 10,v 11]) (l:=(S.getD k aA).items) (f:=C0) (v:=.ref (B.As.getD k CP).it) (λ pre _ B9=>Led σ B9 [(c,.list ((pre.map (zO G B.ms k)).map .str))] []) rfl (D8 (I8 (D8 (D8 rfl ((hV.ob.ext L0.ext).fld _)) ((hV.ia.ext L0.ext).ob.fld _)) rfl ((hV.ia.ext L0.ext).sub hk)) ((Te.ext L0.ext).ob.fld _)) (qS (Te.ext L0.ext).it zi rfl) L0 ?_ λ u W9 L=>?_
 ·intro pre m post u W9 R hl L hR
  have hZ:=P5 hl;delta hZ hz hm
  have lt:=au.lt hs m hm
  have it:=Gr.it lt
  have hi:=tC lt
  have st:∀{B9},Ext σ B9->M9 aK (.ref (B.As.getD k CP).it) B9:=λ E=>(E _ _ Te.it).trans (L0.ext _ _ Te.it).symm
  have TN:=hG.ext L.ext
  refine Cb (dK (F9 (J1 rfl (TN.H2 "rule_of" 164 (by simp)) (p1 rfl) (lK (n:=n) P TN it (F9 (J1 rfl (TN.H2 "dot_of" 171 (by simp)) (p1 rfl) (BZ (n:=n) P TN it (M0 ⟨_,rfl,rfl,K1 (H7 (I9 rfl (I9 rfl (p1 rfl))) (Fp (n:=n) P w sh (hO.ext L.ext) oG hi it.dot λ Y8 E3=>?_))⟩))))))))
  have L:=L.grow E3
  have V1:=hV.ext L.ext
  have TN:=hG.ext L.ext
  have f9:=hO.ext L.ext
  refine A0 (oG _ hi) λ a ho=>?_
  have z7:=f9.r _ (B5 ho)
  refine oR (λ O5 B9=>∃x y,O5=[.ref V,.ref o,C0 k,.ref pa,.ref g,.ref c,C0 m,C0 (G.S6 m),C0 (G.rT m),.str (zO G B.ms k m),x,y]∧Led σ B9 [(c,.list ((pre.map (zO G B.ms k)).map .str))] []) ?_ λ R1 yE=>uS (t:=full G m) ((jP (N3 rfl rfl rfl) (N3 rfl (V8 (I8 (I8 rfl rfl (I0 f9.l (V5 ho))) rfl (fP (k:=1) rfl)) (len_list z7 ((A8 _).trans (A8 _)))) rfl)).trans (C7 some (XY lt).symm)) ⟨λ h=>?_,λ h=>s_end (yE _ _ ⟨u 10,u 11,?_,L⟩)⟩
  ·intro _ bK hQ;intros hQ x y hZ;obtain rfl:=hZ.1;delta hZ hZ L
   refine N4 (aG 0 (x:=.str (zO G B.ms k m)) L rfl rfl rfl (by rw[A8,A8];lia) λ cH _ L5=>s_end (hR .next _ _ trivial (st L5.ext) ?_ rfl))
   show Led σ cH [(c,.list (((pre++[m]).map _).map .str))] _
   rw[Q5,Q5];exact L5
  ·have hZ:=XA hV.mi hk (JS au hs hm h);delta hZ k1 k2
   refine A0 (TN.names) λ na hZ=>?_;delta hZ n1 n2
   have z2:=GW (z:=EP B.ms k (G.S6 m)) w sh
   have z1:=GY w sh lt
   have s1:=z1.app (.lit rfl:Sz 3 (oS "  ["))
   have zt:=w.t5
   refine P3 (I8 (D8 rfl (V1.ob.fld _)) (oU (I9 rfl (p1 rfl))) ((bB V1.ma (bE [k,G.S6 m])).trans k2)) (K1 (jF (H7 (p1 (D8 rfl TN.tc)) (aP (lJ (l:=List.range G.tc) (f:=λ j:Nat=>.int j) (g:=λ s=>.str (aO G s)) (p:=λ s=>EP B.ms k (G.S6 m)/2^s%2==1) (fH (A9 zt (by decide))) (λ _ _=>trivial) (λ s hs bK E4 R k1 k2=>⟨[C0 s],rfl,iB (O6 (O6 (P2 rfl (rC rfl rfl (sX s (A9 (M8 (N1.mp hs)) (A9 zt (by decide))) ⟨Int.natCast_ne_zero.mpr (Nat.ne_of_gt (Z7 s)),P2 rfl ⟨by decide,P2 rfl ⟨EP B.ms k (G.S6 m)/2^s%2==1,C7 some (Mr _ s),?_⟩⟩⟩)))))⟩) λ bK E4 c2 Bh=>?_)))))
   ·cases e:EP B.ms k (G.S6 m)/2^s%2==1 with
    |true=>exact P2 (I8 (D8 rfl (U8 E4 n1)) rfl (W8 sD (E4 _ _ n2) (D1 (N1.mp hs) w.tc))) (k1 e _ (.refl _))
    |false=>exact k2 e _ (.refl _)
   ·have E5:=E4.trans (Ext.new Bh (.list (((List.range G.tc).filter λ s=>EP B.ms k (G.S6 m)/2^s%2==1).map λ s=>.str (aO G s))))
    have fM:=PH.J7 bK c2 (.list (((List.range G.tc).filter λ s=>EP B.ms k (G.S6 m)/2^s%2==1).map λ s=>.str (aO G s)))
    generalize bK.set c2 _=cH at E5 fM ⊢
    refine K1 (O6 (O6 (O6 (P2 rfl (P2 rfl (w_add z1 (.lit rfl:Sz 3 _) rfl (J1 rfl (dN rfl) (p1 rfl) (HR (l:=(X6 (EP B.ms k (G.S6 m)) G.tc).map (aO G)) (by rw[fM,G2];rfl) (.lit rfl:Sz 2 _) z2.2 z2.1 rfl λ z3=>w_add s1 z3 rfl (P2 rfl (w_add (s1.app z3) (.lit rfl:Sz 2 _) rfl (s_end (yE _ _ ⟨C0 (EP B.ms k (G.S6 m)),.ref c2,?_,L.grow E5⟩))))))))))))
    have e:zO G B.ms k m=NG G m++oS "  ["++Kj G (EP B.ms k (G.S6 m))++oS "]":=F7 h
    rw[e];rfl
  ·have e:zO G B.ms k m=NG G m:=G0 (by rw[h];exact C5)
   rw[e];rfl
 ·have zl:((S.getD k aA).items.map (zO G B.ms k)).length<64:=by rw[A8];lia
  refine W3 (DO (H7 (p1 rfl) (SB (L.ext _ _ hp) zl λ c1 h1=>H7 (p1 rfl) (SB ((Ext.new h1 _) _ _ (L.get 0 rfl)) zl λ c2 h2=>⟨true,iO ((Ext.new h2 _) _ _ (PH.J7 ..)) (PH.J7 ..) (uT _),q _ ((L.ext.trans (Ext.new h1 _)).trans (Ext.new h2 _))⟩))))
end
abbrev Z3:=Nat×Str×Int
def GG(G:Gr)(q:Z3):Str×Str:=(q.2.1,if q.1=1 then oS "["++bS G q.2.2++oS "]" else bS G q.2.2)
def Gy(G:Gr)(D:fO)(k t:Nat):List Z3:=if D.jX k t>0 then[(0,aO G t,D.jX k t)]else[]
def Jx(G:Gr)(D:fO)(k t:Nat):List Z3:=if D.jX k t<0 then[(0,aO G t,D.jX k t)]else[]
def Nn(G:Gr)(D:fO)(k t:Nat):List Z3:=(gQ (D.cl.map (·.2)) k t).map λ r:Nat=>(1,aO G t, -(r:Int))
def Eu(D:fO)(k:Nat):List Z3:=if D.df k=0 then[]else[(2,oS "$default", -(D.df k:Int))]
def UW(G:Gr)(D:fO)(k:Nat):List Z3:=(List.range G.tc).flatMap (Gy G D k)++((List.range G.tc).flatMap (λ t=>Jx G D k t++Nn G D k t)++Eu D k)
theorem WF(G:Gr)(D:fO)(k:Nat):U9 G D k=(UW G D k).map (GG G):=by
 unfold U9 UW
 rw[C1,C1,eQ,eQ]
 congr 1
 ·exact C7 (List.flatMap · _) (funext λ t=>by unfold KZ Gy;split<;>rfl)
 ·congr 1
  ·refine C7 (List.flatMap · _) (funext λ t=>?_)
   show PW G D k t++Kh G D k t=_
   rw[C1]
   congr 1
   ·unfold PW Jx;split<;>rfl
   ·unfold Kh Nn;rw[G2];rfl
  ·unfold Bl Eu
   split<;>rfl
structure Yj(R:Nat)(q:Z3):Prop where
 c:Cell R q.2.2
 z:q.2.2≠0
 wo:Wo q.2.1
 df:decide (q.2.1=oS "$default")=(q.1==2)
section
variable{G:Gr}{τ:PH}{K k:Nat}{D:fO}(w:G.Wf)(nm:VD G)(h:DL G τ K D)(hk:k<K)
include w nm h hk
theorem VE:∀q∈UW G D k,Yj G.rules.length q:=by
 have at_:∀{t},t∈List.range G.tc->Wo (aO G t)∧decide (aO G t=oS "$default")=false:=λ ht=>let a:=nm.at (D1 (N1.mp ht) w.tc);⟨a.1,J8 a.2⟩
 have bit:∀(c:Prop) [Decidable c] (p:Z3),(c->Yj G.rules.length p)->∀x∈(if c then[p]else[]),Yj G.rules.length x:=λ c _ p h x hx=>by
  split at hx
  ·rewrite[D5.mp hx];exact h ‹_›
  ·nomatch hx
 intro q hq
 rcases G8.mp hq with hq|hq
 ·refine A0 (P6.mp hq) λ t hZ=>?_;delta hZ ht hq
  unfold Gy at hq
  exact bit (D.jX k t>0) (0,aO G t,D.jX k t) (λ c=>⟨h.cell hk (N1.mp ht),Int.ne_of_gt c,(at_ ht).1,(at_ ht).2⟩) q hq
 rcases G8.mp hq with hq|hq
 ·refine A0 (P6.mp hq) λ t hZ=>?_;delta hZ ht hq
  rcases G8.mp hq with hq|hq
  ·unfold Jx at hq
   exact bit (D.jX k t<0) (0,aO G t,D.jX k t) (λ c=>⟨h.cell hk (N1.mp ht),Int.ne_of_lt c,(at_ ht).1,(at_ ht).2⟩) q hq
  ·refine A0 (D2.mp hq) λ r hZ=>?_;generalize hZ.1=hr;clear hq;obtain rfl:=hZ.2;try clear hZ
   have hZ:=(h.cs.NA hk t).lt r hr;delta hZ r1 r2
   exact⟨Cell.neg r2,by show -(r:Int)≠0;lia,(at_ ht).1,(at_ ht).2⟩
 ·unfold Eu at hq
  split at hq
  ·nomatch hq
  ·rewrite[D5.mp hq]
   exact⟨Cell.neg (h.Xy hk),by show -(D.df k:Int)≠0;lia,VF (x:=oS "$default") (by decide) rfl,H3 rfl⟩
theorem Iw:∀q∈UW G D k,Od (GG G q):=λ q hq=>by
 have z:=VE w nm h hk q hq
 obtain⟨⟨c,c1,c2,c3,c4⟩,ls⟩:=Yh (G:=G) z.c z.z
 refine⟨z.wo,?_,?_⟩
 ·show Hd (if q.1=1 then _ else _)
  split
  ·exact Hd.app (Hd.app ⟨91,[],rfl,rfl⟩)
  ·exact Ra c1 c4
 ·show Ls (if q.1=1 then _ else _)
  split
  ·exact Ls.app Ho
  ·exact ls
end
def Hg(G:Gr)(D:fO)(k:Nat):List (Str×Int):=(((List.range G.tc).filter λ t=>decide (D.jX k t>0)).map λ t=>(aO G t,D.jX k t))++((List.range G.tc).filter λ t=>decide (D.jX k t<0)).map λ t=>(aO G t,D.jX k t)
def Bj(G:Gr)(D:fO)(k:Nat):List (Str×Int):=((List.range G.tc).filter λ t=>!decide (D.jX k t=0)).map λ t=>(aO G t,D.jX k t)
def Cq(G:Gr)(D:fO)(k:Nat):List (Str×Int):=(List.range G.tc).flatMap λ t=>(gQ (D.cl.map (·.2)) k t).map λ r:Nat=>(aO G t, -(r:Int))
def Nz(D:fO)(k:Nat):List Int:=if D.df k=0 then[]else[-(D.df k:Int)]
theorem QZ{α β:Type}(f:α->β)(p:α->Prop)[DecidablePred p]:∀l:List α,(l.flatMap λ x=>if p x then[f x]else[])=(l.filter λ x=>decide (p x)).map f
 |[]=>rfl
 |x::l=>by
  rw[Z6,QZ f p l,W1]
  by_cases h:p x
  ·rw[F7 h,F7 (H3 h)];rfl
  ·rw[G0 h,G0 (by rw[J8 h];exact C5)];rfl
theorem Os(G:Gr)(D:fO)(k:Nat):((UW G D k).filter (·.1==0)).map (·.2)=Hg G D k:=by
 unfold UW Hg
 rw[G7,G7,bX,bX,C1,C1,eQ,eQ]
 have e1:(List.filter (·.1==0) (Eu D k)).map (·.2)=[]:=by unfold Eu;split<;>rfl
 rw[e1,C9]
 congr 1
 ·refine Eq.trans ?_ (QZ (λ t=>(aO G t,D.jX k t)) (λ t=>D.jX k t>0) _)
  refine C7 (List.flatMap · _) (funext λ t=>?_)
  show((if _ then _ else _:List Z3).filter _).map _=_
  split<;>rfl
 ·refine Eq.trans ?_ (QZ (λ t=>(aO G t,D.jX k t)) (λ t=>D.jX k t<0) _)
  refine C7 (List.flatMap · _) (funext λ t=>?_)
  rw[G7,show(Nn G D k t).filter (·.1==0)=[]from R3.mpr λ q hq=>by obtain⟨r,_,rfl⟩:=D2.mp hq;exact C5,C9]
  show((if _ then _ else _:List Z3).filter _).map _=_
  split<;>rfl
theorem Oq(G:Gr)(D:fO)(k:Nat):((UW G D k).filter (·.1==1)).map (·.2)=Cq G D k:=by
 unfold UW Cq
 rw[G7,G7,bX,bX,C1,C1,eQ,eQ]
 have e1:(List.filter (·.1==1) (Eu D k)).map (·.2)=[]:=by unfold Eu;split<;>rfl
 have e2:∀t,(List.filter (·.1==1) (Gy G D k t)).map (·.2)=[]:=λ t=>by unfold Gy;split<;>rfl
 have e3:∀t,List.filter (·.1==1) (Jx G D k t)=[]:=λ t=>by unfold Jx;split<;>rfl
 rw[e1,C9,show(λ t=>(List.filter (·.1==1) (Gy G D k t)).map (·.2))=λ _=>[]from funext e2,sK.mpr λ _ _=>rfl,X5]
 refine C7 (List.flatMap · _) (funext λ t=>?_)
 rw[G7,e3,X5,fB.mpr λ q hq=>by obtain⟨r,_,rfl⟩:=D2.mp hq;rfl]
 unfold Nn
 rw[G2];rfl
theorem Op(G:Gr)(D:fO)(k:Nat):((UW G D k).filter (·.1==2)).map (·.2.2)=Nz D k:=by
 unfold UW Nz
 rw[G7,G7,bX,bX]
 have e2:∀t,List.filter (·.1==2) (Gy G D k t)=[]:=λ t=>by unfold Gy;split<;>rfl
 have e3:∀t,List.filter (·.1==2) (Jx G D k t++Nn G D k t)=[]:=λ t=>by
  rw[G7,show(Nn G D k t).filter (·.1==2)=[]from R3.mpr λ q hq=>by obtain⟨r,_,rfl⟩:=D2.mp hq;exact C5,C9]
  unfold Jx;split<;>rfl
 rw[sK.mpr λ t _=>e2 t,sK.mpr λ t _=>e3 t,X5,X5]
 unfold Eu
 split<;>rfl
theorem Bp(G:Gr)(D:fO)(k:Nat):∀q∈UW G D k,q.1<=2:=by
 intro q hq
 have bit:∀(c:Prop) [Decidable c] (p:Z3),p.1<=2->∀x∈(if c then[p]else[]),x.1<=2:=λ c _ p h x hx=>by
  split at hx
  ·rewrite[D5.mp hx];exact h
  ·nomatch hx
 rcases G8.mp hq with hq|hq
 ·refine A0 (P6.mp hq) λ t hZ=>?_;delta hZ ht hq
  exact bit _ _ (K3 _) q hq
 rcases G8.mp hq with hq|hq
 ·refine A0 (P6.mp hq) λ t hZ=>?_;delta hZ ht hq
  rcases G8.mp hq with hq|hq
  ·exact bit _ _ (K3 _) q hq
  ·refine A0 (D2.mp hq) λ r hZ=>?_;generalize hZ.1=hr;clear hq;obtain rfl:=hZ.2;try clear hZ;exact cN 1
 ·unfold Eu at hq
  split at hq
  ·nomatch hq
  ·rewrite[D5.mp hq];exact D7 2
theorem ER:∀{l:List Z3},(∀q∈l,q.1<=2)->(l.filter (·.1==0)).length+(l.filter (·.1==1)).length+(l.filter (·.1==2)).length=l.length
 |[],_=>rfl
 |q::l,h=>by
  have ih:=ER λ x hx=>h x (.tail _ hx)
  have hq:=h q (.head _)
  obtain⟨n,q⟩:=q
  rcases (show n=0∨n=1∨n=2 by clear ih h;dsimp only at hq;lia)with rfl|rfl|rfl
  ·rw[J3 rfl,J4 C5,J4 C5,H5,H5];lia
  ·rw[J4 C5,J3 rfl,J4 C5,H5,H5];lia
  ·rw[J4 C5,J4 C5,J3 rfl,H5,H5];lia
theorem PZ{α:Type}(f:Nat->Int)(g:Nat->α):∀l:List Nat,(((l.filter λ t=>decide (f t>0)).map g)++(l.filter λ t=>decide (f t<0)).map g).Perm ((l.filter λ t=>!decide (f t=0)).map g)
 |[]=>.nil
 |t::l=>by
  have ih:=PZ f g l
  rcases Int.lt_trichotomy (f t) 0 with h|h|h
  ·rw[J4 (by simp;lia),J3 (by simpa using h),J3 (by simp;lia)]
   exact List.perm_middle.trans (ih.cons _)
  ·rw[J4 (by simp;lia),J4 (by simp;lia),J4 (by simp[h])]
   exact ih
  ·rw[J3 (by simpa using h),J4 (by simp;lia),J3 (by simp;lia)]
   exact ih.cons _
theorem Rx{G:Gr}(w:G.Wf)(nm:VD G)(D:fO)(k:Nat):oA (Hg G D k)=oA (Bj G D k)∧(Hg G D k).length<=5∧(Bj G D k).length<=5:=by
 have p:(Hg G D k).Perm (Bj G D k):=PZ _ _ _
 have nd:(Bj G D k).Nodup:=X3.mpr (bJ (λ ha hb ne e=>ne (nm.inj (D1 (N1.mp (J5.mp ha).1) w.tc) (D1 (N1.mp (J5.mp hb).1) w.tc) (qE e).1)) (List.nodup_range.filter _))
 have l:(Bj G D k).length<=5:=by
  unfold Bj
  rw[A8]
  exact A9 (H4 ..) (by rw[D9];exact w.t5)
 exact⟨LX p (p.nodup_iff.mpr nd) (p.length_eq▸l),p.length_eq▸l,l⟩
def Er(G:Gr)(k:Nat)(l:List Cf):List (Str×Int):=((l.filter λ c=>c.s==k).flatMap λ c=>(PP c).map λ r:Nat=>(aO G c.t, -(r:Int))).foldl ad []
theorem Qe{G:Gr}{τ:PH}{K k:Nat}{D:fO}(w:G.Wf)(nm:VD G)(h:DL G τ K D)(hk:k<K):Er G k (D.cl.map (·.2))=Cq G D k:=by
 refine A0 ((h.cs.st (k:=k)).2 hk) λ m hZ=>?_;delta hZ h1 h2
 unfold Er Cq
 rw[h2]
 refine(CG.lst (f:=λ t (r:Nat)=>(aO G t, -(r:Int))) (λ t u r s ht hu e=>?_) (D7 _) h1).1.trans ?_
 ·have hZ:=qE e;delta hZ e1 e2
  exact⟨nm.inj (D1 ht w.tc) (D1 hu w.tc) e1,qZ (Int.neg_inj.mp e2)⟩
 ·refine C7 (List.flatMap · _) (funext λ t=>?_)
  rw[JO,h2]
theorem Wb{d:Nat}(h:d<=2):d=0∨d=1∨d=2:=by lia
theorem pM(l:List (Str×Int)):(l.map kD).all eZ=true:=by rw[cR];exact G3.mpr λ _ _=>rfl
theorem Cx{σ:PH}{a:Addr}{l:List (Str×Int)}{p:Str×Int}(h:σ a=some (.list (l.map kD))):QO σ (kD p) (.ref a)=some (decide (p∈l)):=by
 rw[BH h]
 unfold DB
 rw[F7 ⟨rfl,pM l⟩,nO]
 refine C7 some ?_
 rw[fY,jO,P8]
 constructor
 ·intro hQ;intros hQ y hZ;delta hZ hy e
  have e:(decide (y.1=p.1)&&(decide (y.2=p.2)&&true))=true:=e
  rw[Bool.and_true,W2,P8,P8]at e
  rw[<-kG e.1 e.2];exact hy
 ·exact λ h=>⟨p,h,KA (x:=kD p) rfl⟩
theorem Oo{σ:PH}{ρ:List PV}{e:PE}{r:Nat}(h:pv σ ρ e=some (C0 r)):pv σ ρ (.bin .Sub (.int 0) e)=some (.int (-(r:Int))):=jJ rfl h (by show some (PV.int (0 - (r:Int)))=_;rw[Int.zero_sub])
theorem HY{α:Type}[DecidableEq α]:∀{l acc:List α},(l.foldl ad acc).length<=acc.length+l.length
 |[],_=>D7 _
 |x::l,acc=>by
  have:=HY (l:=l) (acc:=ad acc x)
  have h:(ad acc x).length<=acc.length+1:=by unfold ad;split;exact cN _;exact X0 B0
  rw[J0,H5];lia
section
variable{W:Wd}{n:Nat}{σ:PH}{ρ:List PV}{a b:PE}{Q:PV->PH->Prop}
theorem Ot{r:Nat}(q:Q (.int (-(r:Int))) σ):mM .Sub σ Q (.int 0) (C0 r):=by show Q (.int (0 - (r:Int))) σ;rw[Int.zero_sub];exact q
theorem v_and(h:(wp W tb n a).v ρ σ λ x B4=>∃t,zI B4 x=some t∧match t with
  |true=>(wp W tb n b).v ρ B4 Q
  |false=>Q x B4):(wp W tb n (.and a b)).v ρ σ Q:=h
end
section
variable{W:Wd}(P:dQ W){n:Nat}{σ:PH}{T:Addr}{A:Aq}{G:Gr}{K k:Nat}{D:fO}{Q:PV->PH->Prop}(w:G.Wf)(nm:VD G)(hT:wI σ T A G K D)
include P w nm hT
theorem UE(hK:K<=32768)(hk:k<K){ac:Addr}(Ic:σ ac=some (.list ((U9 G D k).map wN)))(q:∀B9,Ext σ B9->Q (.bool true) B9):J9 W (n+2) (.ref 915) [.ref T,C0 k,.ref ac] σ Q:=by
 have sh:=nm.sz
 have zl:=(EB w hT.p hk).3
 have ok:=VE w nm hT.p hk
 have kd:=Bp G D k
 have kl:=ER kd
 have f0:=Os G D k
 have f1:=Oq G D k
 have f2:=Op G D k
 rw[WF,A8]at zl
 rw[WF,G2]at Ic
 generalize UW G D k=zs at zl ok kd kl f0 f1 f2 Ic
 have it:∀{B9},Ext σ B9->mB B9 (.ref ac) (zs.map λ q=>wN (GG G q)):=λ E=>qS (E _ _ Ic) zl rfl
 have sn:∀{q:Z3},q∈zs->Txt.startswith (bS G q.2.2) (oS "[")=false:=λ hq=>by
  refine A0 ((Yh (G:=G) (ok _ hq).c (ok _ hq).z).c0) λ c hZ=>?_;delta hZ c1 hZ c3
  exact pO c1 rfl c3
 have sy:∀x:Str,Txt.startswith (oS "["++x++oS "]") (oS "[")=true:=λ x=>by rw[dP];exact KT.starts_app _ _
 refine P.fn oH 76 rfl (ρ:=[.ref T,C0 k,.ref ac,.M7,.M7,.M7,.M7,.M7,.M7,.M7,.M7,.M7,.M7]) rfl (K1 (gS (Led.start σ) rfl (it (.refl _)) (λ _ _=>rfl) (g:=λ q=>.str q.2.1) (λ q hq R hR=>P2 rfl hR) λ c3 aK E1 L1=>?_))
 have h3:=L1.get 0 rfl
 clear L1
 refine K1 (jF (P2 rfl (lJ (l:=zs) (f:=λ q=>wN (GG G q)) (g:=λ q=>kD q.2) (p:=λ q=>q.1==0) (it E1) (iC (E1 _ _ Ic)) (λ q hq Y8 E3 R k1 k2=>⟨[.str q.2.1,.str (GG G q).2],rfl,?_⟩) λ W9 E2 c4 Ue=>?_)))
 ·clear hK zl;obtain⟨d,x,z⟩:=q
  have o:=ok _ hq
  have hd:=kd _ hq
  have s0:=sn hq
  rcases Wb hd with rfl|rfl|rfl
  ·refine IK (zL (PC (J1 rfl (dN rfl) (p1 rfl) (cD ⟨false,C7 some s0,uS (t:=true) ((N3 rfl rfl rfl).trans (C7 (λ b=>some (!b)) o.df)) ?_⟩))))
   exact dK (F9 (P2 rfl (F9 (H7 (p1 rfl) (wA (n:=n) P w sh o.c o.z λ bK E4=>M0 (k1 rfl bK E4))))))
  ·exact IK (zL (PC (J1 rfl (dN rfl) (p1 rfl) (cD ⟨true,C7 some (sy _),k2 rfl _ (.refl _)⟩))))
  ·exact IK (zL (PC (J1 rfl (dN rfl) (p1 rfl) (cD ⟨false,C7 some s0,uS (t:=false) ((N3 rfl rfl rfl).trans (C7 (λ b=>some (!b)) o.df)) (k2 rfl _ (.refl _))⟩))))
 have E4:=E2.trans (Ext.new Ue (.list ((zs.filter λ q=>q.1==0).map λ q=>kD q.2)))
 have h4:_=some (PO.list ((Hg G D k).map kD)):=(PH.J7 W9 c4 (.list ((zs.filter λ q=>q.1==0).map λ q=>kD q.2))).trans (by rw[<-f0,G2];rfl)
 generalize W9.set c4 _=bK at E4 h4 ⊢
 clear Ue E2
 have h3:=E4 _ _ h3
 have E4:=E1.trans E4
 refine K1 (jF (P2 rfl (lJ (l:=zs) (f:=λ q=>wN (GG G q)) (g:=λ q=>kD q.2) (p:=λ q=>q.1==1) (it E4) (iC (E4 _ _ Ic)) (λ q hq Y8 E3 R k1 k2=>⟨[.str q.2.1,.str (GG G q).2],rfl,?_⟩) λ W9 E2 c5 EW=>?_)))
 ·clear hK zl;obtain⟨d,x,z⟩:=q
  have o:=ok _ hq
  have hd:=kd _ hq
  have s0:=sn hq
  rcases Wb hd with rfl|rfl|rfl
  ·exact PC (J1 rfl (dN rfl) (p1 rfl) (cD ⟨false,C7 some s0,k2 rfl _ (.refl _)⟩))
  ·refine PC (J1 rfl (dN rfl) (p1 rfl) (cD ⟨true,C7 some (sy _),dK (F9 (P2 rfl (F9 (T5 (F9 (rB rfl rfl (xB rfl) rfl rfl (M0 ?_)))))))⟩))
   show J9 W (n+1) (.ref 898) [.str (Txt.slice (oS "["++bS G z++oS "]") (some 1) (some (-1)))] Y8 _
   rw[Jl (oS "[") (bS G z) (oS "]") rfl rfl]
   exact wA (n:=n) P w sh o.c o.z λ bK E4=>M0 (k1 rfl bK E4)
  ·exact PC (J1 rfl (dN rfl) (p1 rfl) (cD ⟨false,C7 some s0,k2 rfl _ (.refl _)⟩))
 have E5:=E2.trans (Ext.new EW (.list ((zs.filter λ q=>q.1==1).map λ q=>kD q.2)))
 have h5:_=some (PO.list ((Cq G D k).map kD)):=(PH.J7 W9 c5 (.list ((zs.filter λ q=>q.1==1).map λ q=>kD q.2))).trans (by rw[<-f1,G2];rfl)
 generalize W9.set c5 _=cH at E5 h5 ⊢
 clear EW E2
 have h3:=E5 _ _ h3
 have h4:=E5 _ _ h4
 have E5:=E4.trans E5
 refine K1 (jF (P2 rfl (lJ (l:=zs) (f:=λ q=>wN (GG G q)) (g:=λ q=>.int q.2.2) (p:=λ q=>q.1==2) (it E5) (iC (E5 _ _ Ic)) (λ q hq Y8 E3 R k1 k2=>⟨[.str q.2.1,.str (GG G q).2],rfl,?_⟩) λ W9 E2 c6 Li=>?_)))
 ·clear E3 hK zl;obtain⟨d,x,z⟩:=q
  have o:=ok _ hq
  have hd:=kd _ hq
  clear hq kd;rcases Wb hd with rfl|rfl|rfl
  ·exact uS (t:=false) ((N3 rfl rfl rfl).trans (C7 some o.df)) (k2 rfl _ (.refl _))
  ·exact uS (t:=false) ((N3 rfl rfl rfl).trans (C7 some o.df)) (k2 rfl _ (.refl _))
  ·exact uS (t:=true) ((N3 rfl rfl rfl).trans (C7 some o.df)) (H7 (p1 rfl) (wA (n:=n) P w sh o.c o.z λ bK E4=>k1 rfl bK E4))
 have E6:=E2.trans (Ext.new Li (.list ((zs.filter λ q=>q.1==2).map λ q=>.int q.2.2)))
 have h6:_=some (PO.list ((Nz D k).map .int)):=(PH.J7 W9 c6 (.list ((zs.filter λ q=>q.1==2).map λ q=>.int q.2.2))).trans (by rw[<-f2,G2];rfl)
 generalize W9.set c6 _=eK at E6 h6 ⊢
 clear Li E2
 have h3:=E6 _ _ h3
 have h4:=E6 _ _ h4
 have h5:=E6 _ _ h5
 have E6:=E5.trans E6
 clear E1 E4 E5 it sn sy ok
 have Rf:=hT.ext E6
 refine oR (λ O5 B9=>O5=[.ref T,C0 k,.ref ac,.ref c3,.ref c4,.ref c5,.ref c6,.M7,.M7,.M7,.M7,.M7,.M7]∧Ext eK B9) ?_ λ R1 yE=>iB (P2 rfl (v_ite (iB (J1 rfl (Rf.ob.H2 "default" rfl rfl) (p1 rfl) (HM (n:=n) P Rf hk (P2 rfl ⟨decide ((D.df k:Int)=0),rfl,?_⟩))))))
 ·intro _ eW hQ;clear E4 E5 kd sh zl W9;obtain rfl:=hQ.1;delta hQ hQ E7
  have h3:=E7 _ _ h3
  have h4:=E7 _ _ h4
  have h5:=E7 _ _ h5
  have h6:=E7 _ _ h6
  have E7:=E6.trans E7
  have TK:=hT.ext E7
  clear Rf E6 hT Ic
  have zt:=w.t5
  have hZ:=Rx w nm D k;delta hZ d1 d2 d3
  refine K1 (K7 (Led.start eW) rfl λ c7 qB L=>Z1 (H7 (p1 (D8 rfl ((TK.ob.ext L.ext).fld _))) (aP (Z0 (λ v=>[.ref T,C0 k,.ref ac,.ref c3,.ref c4,.ref c5,.ref c6,.ref c7,v 8,v 9,v 10,v 11,v 12]) (λ pre _ B9=>Led eW B9 [(c7,.list (((pre.filter λ t=>!decide (D.jX k t=0)).map λ t=>(aO G t,D.jX k t)).map kD))] []) rfl (fH (A9 zt (by decide))) L ?_ λ u IF L=>?_))))
  ·intro pre t post u IF R hl L hR
   have hZ:=P9 hl;delta hZ hp ht
   have hz:((pre.filter λ t=>!decide (D.jX k t=0)).map λ t=>(aO G t,D.jX k t)).length<=5:=by
    rw[A8]
    exact A9 (H4 ..) (by rw[hp,D9];lia)
   have Nv:=TK.ext L.ext
   rw[G7,C1]at hR
   generalize (pre.filter λ t=>!decide (D.jX k t=0)).map (λ t=>(aO G t,D.jX k t))=acc at L hR hz
   refine iF (iB (J1 rfl (Nv.ob.H2 "explicit" rfl rfl) (I9 rfl (p1 rfl)) (NY (n:=n) P Nv hk ht (P2 rfl ⟨!decide (D.jX k t=0),rfl,λ h=>?_,λ h=>?_⟩))))
   ·rw[show[t].filter (λ t=>!decide (D.jX k t=0))=[t]from J3 h]at hR
    refine N4 (T0 rfl (N9 (L.get 0 rfl) _) (F9 (dK (F9 (P2 (I8 (D8 rfl (Nv.ob.fld _)) rfl (W8 sD Nv.nm (D1 ht w.tc))) (F9 (J1 rfl (Nv.ob.H2 "explicit" rfl rfl) (I9 rfl (p1 rfl)) (NY (n:=n) P Nv hk ht (M0 (M0 (aW 0 L rfl (by rw[A8];lia) λ iU _ L2=>O7 (s_end (hR .next _ _ trivial trivial ?_ rfl)))))))))))))
    show Led eW iU [(c7,.list (List.map kD (acc++[(aO G t,D.jX k t)])))] _
    rw[Q5];exact L2
   ·rw[show[t].filter (λ t=>!decide (D.jX k t=0))=[]from J4 (by rw[h];exact C5)]at hR
    exact O7 (s_end (hR .next _ _ trivial trivial (by rw[nN,C9];exact L) rfl))
  have L:Led eW IF [(c7,.list ((Bj G D k).map kD))] []:=L
  refine A0 ((TK.p.cs.st (k:=k)).2 hk) λ m hZ=>?_;delta hZ m1 m2
  have bd:=(TK.p.cs.st (k:=k)).1
  have lo:=Qe w nm TK.p hk
  have zc:D.cl.length<=2^24:=by have:=TK.p.c1;lia
  have zd:∀l:List (Addr×Cf),(∀c∈(l.map (·.2)).filter (λ c=>c.s==k),Uq G c.rs)->((l.map (·.2)).filter λ c=>c.s==k).length<=80->(Er G k (l.map (·.2))).length<=1200:=λ l h1 h2=>by
   refine A9 HY (A9 (X0 (Y3 _)) ?_)
   refine A9 ?_ (fA 15 h2)
   generalize (l.map (·.2)).filter (λ c=>c.s==k)=L at h1
   clear h2
   clear E6 zt W9;induction L with
   |nil=>exact K3 _
   |cons c L ih=>
    rw[Z6,B0,H5,Nat.mul_succ,aE]
    exact S0 (ih λ x hx=>h1 x (.tail _ hx)) (by rw[A8];exact A9 (H4 ..) (h1 c (.head _)).z)
  refine K1 (K7 L rfl λ c9 iU L=>?_)
  have Ax:=L.ext
  refine eY (λ v=>[.ref T,C0 k,.ref ac,.ref c3,.ref c4,.ref c5,.ref c6,.ref c7,v 8,.ref c9,v 10,v 11,v 12]) (l:=D.cl) (f:=λ p=>.ref p.1) (v:=.ref A.cl) (λ pre _ B9=>Led eW B9 [(c7,.list ((Bj G D k).map kD)),(c9,.list ((Er G k (pre.map (·.2))).map kD))] []) rfl (D8 rfl ((TK.ob.ext L.ext).fld _)) (V6 (L.ext _ _ TK.cl) (by rw[A8];exact zc)) L ?_ λ u nZ L=>?_
  ·intro pre p post u nZ R hl L hR
   have hp:p∈D.cl:=hl▸G4 _ (.head _)
   have st:∀{B9},Ext eW B9->M9 iU (.ref A.cl) B9:=λ E=>(E _ _ TK.cl).trans (Ax _ _ TK.cl).symm
   refine A0 (TK.p.c2 p hp) λ _ O=>?_
   have hZ:=bd p.2 (J2 hp);delta hZ hZ ht hb
   have sb:((pre.map (·.2)).filter λ c=>c.s==k).Sublist m:=by rw[<-m2,hl,C1,G7];exact qY ..
   have za:=zd pre (λ c hc=>(m1.mem c (sb.subset hc)).3) (A9 sb.length_le (A9 m1.len (fA 16 w.t5)))
   have e1:Er G k ((pre++[p]).map (·.2))=if(p.2.s==k)=true then((PP p.2).map λ r:Nat=>(aO G p.2.t, -(r:Int))).foldl ad (Er G k (pre.map (·.2)))else Er G k (pre.map (·.2)):=by
    unfold Er
    rw[C1,G7,Q7,K9]
    by_cases c:(p.2.s==k)=true
    ·rw[F7 c,show List.filter (λ c:Cf=>c.s==k) (List.map (·.2) [p])=[p.2]from J3 c,Q2]
    ·rw[G0 c,show List.filter (λ c:Cf=>c.s==k) (List.map (·.2) [p])=[]from J4 c];rfl
   rw[e1]at hR
   generalize Er G k (pre.map (·.2))=acc at L hR za
   let J:List Nat->List (Str×Int):=λ p2=>if(p.2.s==k)=true then((p2.filter (vL p.2.ch)).map λ r:Nat=>(aO G p.2.t, -(r:Int))).foldl ad acc else acc
   have j0:J []=acc:=by show(if _ then _ else _)=_;split<;>rfl
   refine eY (λ v=>[.ref T,C0 k,.ref ac,.ref c3,.ref c4,.ref c5,.ref c6,.ref c7,v 8,.ref c9,.ref p.1,v 11,v 12]) (l:=p.2.rs) (f:=C0) (λ p2 _ B9=>Led eW B9 [(c7,.list ((Bj G D k).map kD)),(c9,.list ((J p2).map kD))] []) rfl (D8 rfl ((O.ext L.ext).fld _)) (rN (by rw[A8];exact A9 hb.z (by decide))) (by rw[j0];exact L) ?_ λ u B9 L=>s_end (hR .next _ _ trivial (st L.ext) L rfl)
   intro p2 r iG u2 rA R2 fM L bR
   have zj:(J p2).length<=1215:=by
    show(if _ then _ else _:List (Str×Int)).length<=_
    split
    ·refine A9 HY ?_
     rw[A8]
     have:(p2.filter (vL p.2.ch)).length<=p.2.rs.length:=A9 (H4 ..) (by rw[fM,B0];exact J6 _ _)
     have:=hb.z
     lia
    ·lia
   have j1:J (p2++[r])=if((p.2.s==k)&&vL p.2.ch r)=true then ad (J p2) (aO G p.2.t, -(r:Int))else J p2:=by
    show(if _ then _ else _:List (Str×Int))=_
    by_cases c:(p.2.s==k)=true
    ·rw[F7 c,c,Bool.true_and,G7,C1,K9]
     have ej:J p2=((p2.filter (vL p.2.ch)).map λ r:Nat=>(aO G p.2.t, -(r:Int))).foldl ad acc:=F7 c
     rw[<-ej]
     by_cases c2:vL p.2.ch r=true
     ·rw[F7 c2,show[r].filter (vL p.2.ch)=[r]from J3 c2];rfl
     ·rw[G0 c2,show[r].filter (vL p.2.ch)=[]from J4 c2];rfl
    ·rw[G0 c,G0 (by rw[W2];exact λ h=>c h.1)]
     exact(G0 c).symm
   rw[j1]at bR
   generalize J p2=acc at L bR zj
   have e7:=TK.ext L.ext
   have OL:=O.ext L.ext
   refine P3 (x:=kD (aO G p.2.t, -(r:Int))) (oU (I9 (I8 (D8 rfl (e7.ob.fld _)) (D8 rfl (OL.fld _)) (W8 sD e7.nm (D1 ht w.tc))) (p1 (Oo rfl)))) ?_
   refine cZ (t:=(p.2.s==k)&&(vL p.2.ch r&&!decide ((aO G p.2.t, -(r:Int))∈acc))) (jP ((N3 (D8 rfl (OL.fld _)) rfl rfl).trans (C7 some (zA _ _))) (jP (N3 (D8 rfl (OL.fld _)) (Oo rfl) rfl) (N3 rfl rfl (by show Option.map _ (QO rA (kD _) (.ref c9))=_;rw[Cx (L.get 1 rfl)];rfl)))) (λ h=>?_) λ h=>O7 (s_end (bR .next _ _ trivial trivial ?_ rfl))
   ·have hZ:=F0.mp h;delta hZ g1 g2
    have hZ:=F0.mp g2;delta hZ g2 g3
    rw[F7 (by rw[g1,g2];rfl),CK (K6 (WV g3))]at bR
    refine N4 (aG 1 (x:=kD (aO G p.2.t, -(r:Int))) L rfl rfl rfl (by rw[A8];lia) λ FQ _ L2=>O7 (s_end (bR .next _ _ trivial trivial ?_ rfl)))
    show Led eW FQ [_,(c9,.list (List.map kD (acc++[_])))] _
    rw[Q5];exact L2
   ·by_cases c:((p.2.s==k)&&vL p.2.ch r)=true
    ·rw[F7 c]
     rw[<-Bool.and_assoc,c,Bool.true_and]at h
     rw[CJ (by simpa using h)];exact L
    ·rw[G0 c];exact L
  ·rw[lo]at L
   have h3:=L.ext _ _ h3
   have h4:=L.ext _ _ h4
   have h5:=L.ext _ _ h5
   have h6:=L.ext _ _ h6
   have h7:=L.get 0 rfl
   have h9:=L.get 1 rfl
   have di:=E7.trans L.ext
   have Yt:(Cq G D k).length<64:=by
    have:=VC (f:=λ t=>(gQ (D.cl.map (·.2)) k t).map λ r:Nat=>(aO G t, -(r:Int))) (c:=6) (λ t=>by rw[A8];exact(TK.p.cs.NA hk t).len w) (List.range G.tc)
    rw[D9]at this
    exact H8 this (by lia)
   have l0:(Hg G D k).length=(zs.filter (·.1==0)).length:=by rw[<-f0,A8]
   have l1:(Cq G D k).length=(zs.filter (·.1==1)).length:=by rw[<-f1,A8]
   have l2:(Nz D k).length=(zs.filter (·.1==2)).length:=by rw[<-f2,A8]
   have ll:∀a b c d:Nat,a+b+c=d->decide (((a:Int)+(b:Int))+(c:Int)=(d:Int))=true:=λ a b c d h=>H3 (by lia)
   clear L
   refine W3 (v_and (DO (H7 (p1 rfl) (pX h4 (H8 d2 (by decide)) λ a1 b1=>H7 (p1 rfl) (pX (Ext.new b1 _ _ _ h7) (H8 d3 (by decide)) λ a2 b2=>⟨true,iO (Ext.new b2 _ _ _ (PH.J7 ..)) (by rw[d1];exact PH.J7 ..) (pM _),true,rfl,?_⟩)))))
   have Aw:=(Ext.new b1 (.list ((oA (Hg G D k)).map kD))).trans (Ext.new b2 (.list ((oA (Bj G D k)).map kD)))
   generalize (nZ.set a1 _).set a2 _=rA at Aw ⊢
   refine v_and (DO (H7 (p1 rfl) (pX (Aw _ _ h5) Yt λ a3 b3=>H7 (p1 rfl) (pX (Ext.new b3 _ _ _ (Aw _ _ h9)) Yt λ a4 b4=>⟨true,iO (Ext.new b4 _ _ _ (PH.J7 ..)) (PH.J7 ..) (pM _),true,rfl,?_⟩))))
   have Oh:=Aw.trans ((Ext.new b3 (.list ((oA (Cq G D k)).map kD))).trans (Ext.new b4 (.list ((oA (Cq G D k)).map kD))))
   generalize (rA.set a3 _).set a4 _=FQ at Oh ⊢
   exact P2 (WR (jJ (jJ (V8 rfl (len_list (Oh _ _ h4) ((A8 _).trans l0))) (V8 rfl (len_list (Oh _ _ h5) ((A8 _).trans l1))) rfl) (V8 rfl (len_list (Oh _ _ h6) ((A8 _).trans l2))) rfl) (V8 rfl (len_list (Oh _ _ h3) (A8 _))) (C7 some (ll _ _ _ _ kl))) (q _ (di.trans Oh))
 ·clear E4 E5 E6 f0 f1 f2 h3 h4 h5 hK hT Ic kd kl nm q sh w zl W9;cases e:decide ((D.df k:Int)=0)with
  |true=>
   have e6:Nz D k=[]:=F7 (qG.mp (D0 e))
   rw[e6]at h6
   exact K7 (Led.start eK) rfl λ c7 eW L=>⟨false,by show Option.map _ (Bi eW (.ref c6) (.ref c7))=_;rw[iO (L.ext _ _ h6) (L.get 0 rfl) rfl];rfl,(λ h=>nomatch h),λ _=>s_end (yE _ _ ⟨rfl,L.ext⟩)⟩
  |false=>
   have e6:Nz D k=[-(D.df k:Int)]:=G0 λ h=>K6 e (C7 Int.ofNat h)
   have h6:eK c6=some (.list [.int (-(D.df k:Int))]):=by rw[e6]at h6;exact h6
   exact bP (F9 (O6 (P2 rfl (J1 rfl (Rf.ob.H2 "default" rfl rfl) (p1 rfl) (HM (n:=n) P Rf hk (Ot (M0 λ c7 Rc=>⟨false,by show Option.map _ (Bi _ (.ref c6) (.ref c7))=_;rw[iO (Ext.new Rc _ _ _ h6) (PH.J7 ..) rfl];rfl,(λ h=>nomatch h),λ _=>s_end (yE _ _ ⟨rfl,Ext.new Rc _⟩)⟩)))))))
end
def gx(p:Str×Int):Str×Str:=(p.1,oS "go to state "++Z2 p.2)
def HD(G:Gr)(D:fO)(k:Nat):List (Str×Int):=((List.range (G.names.length - G.tc)).filter λ i=>decide (D.goal k (G.tc+i)>=0)).map λ i=>(aO G (G.tc+i),D.goal k (G.tc+i))
theorem XW(G:Gr)(D:fO)(k:Nat):iN G D k=(HD G D k).map gx:=by
 unfold HD
 rw[G2]
 exact QZ (gx∘λ i=>(aO G (G.tc+i),D.goal k (G.tc+i))) (λ i=>D.goal k (G.tc+i)>=0) _
def linesOf(l:List (Str×Str)):List Str:=l.map (IU (lO l))
def ZZ(r g:List (Str×Str)):List Bool:=(if r=[]then[]else[true])++(if g=[]then[]else[false])
theorem BL:∀{l:List Str} (acc:List (List Str)) (x:List Str),(∀y∈l,y≠oS "")->l.foldl GJ (acc++[x])=acc++[x++l.map Txt.strip]
 |[],acc,x,_=>by rw[nN,C9];rfl
 |y::l,acc,x,h=>by
  rw[J0,AD (h y (.head _)),BL acc _ λ z hz=>h z (.tail _ hz),I6,C6];rfl
theorem fold_add{a p:List Str}{A:List (List Str)}{x:List Str}(h:a.foldl GJ [[]]=A++[x])(hp:∀y∈p,y≠oS ""):(iZ a p).foldl GJ [[]]=A++[x]++(if p=[]then[]else[p.map Txt.strip]):=by
 unfold iZ
 by_cases c:p=[]
 ·rw[F7 c,F7 c,C9,h]
 ·rw[G0 c,G0 c,K9,K9,h]
  show p.foldl GJ (GJ (A++[x]) (oS ""))=_
  rw[yO,BL (A++[x]) [] hp,X5]
theorem AZ{x:Str}(h:∃c,(cp x)[0]? =some c):x≠oS "":=λ e=>by
 intros h c h
 rw[e]at h;cases h
theorem lQ{l:List (Str×Str)}(h:∀p∈l,Od p):(Y9 l).map Txt.strip=linesOf l∧(∀y∈Y9 l,y≠oS "")∧(linesOf l).map cellOf=l:=by
 refine⟨?_,λ y hy=>?_,?_⟩
 ·unfold Y9 linesOf
  rw[G2]
  exact P1 λ p hp=>IS (h p hp)
 ·refine A0 (D2.mp hy) λ p hZ=>?_;clear hy;obtain rfl:=hZ.2;try clear hZ
  exact AZ ⟨32,dG (dG (dG rfl))⟩
 ·unfold linesOf
  rw[G2]
  exact(P1 λ p hp=>ZL (h p hp)).trans (gK _)
section
variable{G:Gr}{S:List St}{τ:PH}{k:Nat}{D:fO}(w:G.Wf)(nm:VD G)(h:DL G τ S.length D)(au:yK G S)(hk:k<S.length)
include w nm h au hk
omit au in
theorem PQ:(∀p∈U9 G D k,Od p∧Txt.startswith p.2 (oS "go to state ")=false)∧(∀p∈iN G D k,Od p):=by
 refine⟨λ p hp=>?_,λ p hp=>?_⟩
 ·rw[WF]at hp
  refine A0 (D2.mp hp) λ q hZ=>?_;generalize hZ.1=hq;clear hp;obtain rfl:=hZ.2;try clear hZ
  refine⟨Iw w nm h hk q hq,?_⟩
  have z:=VE w nm h hk q hq
  obtain⟨⟨c,c1,c2,c3,c4⟩,ls⟩:=Yh (G:=G) z.c z.z
  show Txt.startswith (if q.1=1 then _ else _) _=false
  split
  ·exact pO (dG (dG (c:=91) rfl)) rfl (by decide)
  ·exact pO c1 rfl c2
 ·rw[XW]at hp
  refine A0 (D2.mp hp) λ q hZ=>?_;generalize hZ.1=hq;clear h hk hp w τ;obtain rfl:=hZ.2;try clear hZ
  refine A0 (D2.mp hq) λ i hZ=>?_;generalize hZ.1=hi;clear S hq;obtain rfl:=hZ.2;try clear hZ
  have hZ:=J5.mp hi;delta hZ h1 h2
  have hi:=N1.mp h1
  have h2:=D0 h2
  refine A0 (cB h2) λ n en=>?_
  refine⟨(nm.at (by lia)).1,Hd.app ⟨103,_,rfl,rfl⟩,Ls.app ?_⟩
  show Ls (Z2 (D.goal k (G.tc+i)))
  rw[en];exact(yL n).ls
theorem WM{ms:List (PK×PV)}:partsOf (SN G D S ms k)=[DG k]::((S.getD k aA).items.map (zO G ms k))::(ZZ (U9 G D k) (iN G D k)).map λ b=>if b=true then linesOf (U9 G D k)else linesOf (iN G D k):=by
 have hZ:=PQ w nm h hk;delta hZ r1 r2
 have hZ:=lQ λ p hp=>(r1 p hp).1;delta hZ a1 a2
 have hZ:=lQ r2;delta hZ b1 b2
 have hs:S.getD k aA∈S:=B5 (W5 aA hk)
 have w2:(yC G S ms k).map Txt.strip=(S.getD k aA).items.map (zO G ms k):=by
  unfold yC
  rw[G2]
  refine P1 λ m hm=>?_
  have hZ:=Jn (ms:=ms) (k:=k) w nm (au.lt hs m hm);delta hZ s1 s2
  exact pN (λ c hc=>by rewrite[bH (n:=4) (a:=32) hc];rfl) s1 s2
 have nT:∀y∈yC G S ms k,y≠oS "":=λ y hy=>by
  refine A0 (D2.mp hy) λ m hZ=>?_;clear hy;obtain rfl:=hZ.2;try clear hZ
  exact AZ ⟨32,dG rfl⟩
 have d7:DG k≠oS "":=AZ ⟨83,dG rfl⟩
 have hd2:Txt.strip (DG k)=DG k:=LW (Hd.app ⟨83,_,rfl,rfl⟩) (Ls.app (yL k).ls)
 have base:([DG k,oS ""]++yC G S ms k).foldl GJ [[]]=[[DG k]]++[(S.getD k aA).items.map (zO G ms k)]:=by
  rw[K9]
  show(yC G S ms k).foldl GJ (GJ (GJ ([]++[[]]) (DG k)) (oS ""))=_
  rw[AD d7,yO,hd2,BL _ _ nT,w2];rfl
 have w6:(S.getD k aA).items≠[]:=by
  rw[au.it _ hs]
  unfold Gr.close
  have:=(au.kp _ hs).2
  exact List.append_ne_nil_of_left_ne_nil (λ e=>this (kK (by rw[<-(N8 _).length_eq,e];rfl))) _
 have e1:∀l:List (Str×Str),Y9 l=[]↔l=[]:=λ l=>mR
 have step:=fold_add base a2
 have Pf:(iZ (iZ ([DG k,oS ""]++yC G S ms k) (Y9 (U9 G D k))) (Y9 (iN G D k))).foldl GJ [[]]=[[DG k]]++[(S.getD k aA).items.map (zO G ms k)]++(if U9 G D k=[]then[]else[linesOf (U9 G D k)])++if iN G D k=[]then[]else[linesOf (iN G D k)]:=by
  rw[a1]at step
  by_cases c:U9 G D k=[]
  ·rw[F7 ((e1 _).mpr c),C9]at step
   have:=fold_add step b2
   rw[this,F7 c,C9,b1]
   refine C7 _ ?_
   by_cases c2:iN G D k=[]
   ·rw[F7 c2,F7 ((e1 _).mpr c2)]
   ·rw[G0 c2,G0 λ e=>c2 ((e1 _).mp e)]
  ·rw[G0 λ e=>c ((e1 _).mp e)]at step
   have:=fold_add step b2
   rw[this,G0 c,b1]
   refine C7 _ ?_
   by_cases c2:iN G D k=[]
   ·rw[F7 c2,F7 ((e1 _).mpr c2)]
   ·rw[G0 c2,G0 λ e=>c2 ((e1 _).mp e)]
 unfold partsOf SN
 rw[K9,Pf]
 show List.filter _ (GJ _ (oS ""))=_
 rw[yO,G7,G7,G7,G7]
 have ne:∀l:List (Str×Str),l≠[]->(!(linesOf l).isEmpty)=true:=λ l h=>by cases l with|nil=>exact absurd rfl h|cons=>rfl
 have f1:∀(l:List (Str×Str)),List.filter (λ p=>!List.isEmpty p) (if l=[]then[]else[linesOf l])=if l=[]then[]else[linesOf l]:=λ l=>by
  by_cases c:l=[]
  ·rw[F7 c];rfl
  ·rw[G0 c];exact J3 (p:=λ p:List Str=>!p.isEmpty) (ne l c)
 rw[f1,f1]
 have f2:List.filter (λ p=>!List.isEmpty p) [(S.getD k aA).items.map (zO G ms k)]=[(S.getD k aA).items.map (zO G ms k)]:=J3 (p:=λ p:List Str=>!p.isEmpty) (by
  cases e:(S.getD k aA).items with
  |nil=>exact absurd e w6
  |cons=>rfl)
 rw[f2]
 unfold ZZ
 show([DG k]::_::_)++_++[]=_
 rw[C9,C1]
 refine C7 (List.cons _<|List.cons _ ·) ?_
 by_cases c:U9 G D k=[]<;>by_cases c2:iN G D k=[]
 ·rw[F7 c,F7 c2,F7 c,F7 c2];rfl
 ·rw[F7 c,G0 c2,F7 c,G0 c2];rfl
 ·rw[G0 c,F7 c2,G0 c,F7 c2];rfl
 ·rw[G0 c,G0 c2,G0 c,G0 c2];rfl
end
section
variable{W:Wd}{n:Nat}{σ:PH}{ρ:List PV}{r b:V0}{K:Fl->List PV->PH->Prop}{e:PE}{v:PV}{B:Bool->PH->Prop}
theorem Dj{is:List Nat}(h:(wp W tb n e).v ρ σ λ v B4=>∃xs,mB B4 v xs∧jV (M9 B4 v) (λ x ρ σ R=>∃ys,x=.tup ys∧ys.length=is.length∧S8 W tb n b (aN is ys ρ) σ R) xs ρ B4 (zP W n r K)):S8 W tb n (.cons (.rS is e b) r) ρ σ K:=h
theorem QW(F:(Nat->PV)->List PV){α:Type}{l:List α}{f:α->List PV}{is:List Nat}{B4:PH}(I:List α->(Nat->PV)->PH->Prop)(HB:ρ=F (lo ρ))(hv:mB B4 v (l.map λ x=>.tup (f x)))(hl:∀x,(f x).length=is.length)(h0:I [] (lo ρ) B4)
  (hs:∀pre x post u B9 (R:Fl->List PV->PH->Prop),l=pre++x::post->I pre u B9->(∀fl O5 B9,fl.go->M9 B4 v B9->I (pre++[x]) (lo O5) B9->O5=F (lo O5)->R fl O5 B9)->S8 W tb n b (aN is (f x) (F u)) B9 R)
  (hk:∀u σ,I l u σ->S8 W tb n r (F u) σ K):∃xs,mB B4 v xs∧jV (M9 B4 v) (λ x ρ σ R=>∃ys,x=.tup ys∧ys.length=is.length∧S8 W tb n b (aN is ys ρ) σ R) xs ρ B4 (zP W n r K):=
 ⟨_,hv,eC (λ pre ρ σ=>ρ=F (lo ρ)∧I pre (lo ρ) σ) ⟨HB,h0⟩ (λ pre x post ρ B9 R e ⟨e',h⟩ k=>⟨f x,rfl,hl x,e'▸hs pre x post (lo ρ) B9 R e h λ fl O5 B9 g s h e=>k fl _ B9 g s ⟨e,h⟩⟩) λ ρ σ ⟨e',h⟩=>e'▸hk (lo ρ) σ h⟩
theorem Za{q:Nat}{f:Value}{as:uL}(h:(wp W tb n (.call q f as)).v ρ σ λ x B9=>∃b,zI B9 x=some b∧B b B9):(wp W tb n (.call q f as)).t ρ σ B:=h
end
theorem OY{β:Type}(F:Bool->β):∀{ps:List (Addr×β)} {bs:List Bool},ps.map (·.2)=bs.map F->∃l:List (Addr×Bool),l.map (·.2)=bs∧ps=l.map λ q=>(q.1,F q.2)
 |[],[],_=>⟨[],rfl,rfl⟩
 |[],_::_,h=>nomatch h
 |_::_,[],h=>nomatch h
 |p::ps,b::bs,h=>by
  injection h with h1 h2
  refine A0 (OY F h2) λ l hZ=>?_;delta hZ e1 e2
  exact⟨(p.1,b)::l,C7 (b::·) e1,by rw[e2];exact C7 (·::_) (kG rfl h1)⟩
theorem KM(a p:List Str):(iZ a p).length<=a.length+1+p.length:=by
 unfold iZ
 split
 ·exact A9 (cN _) (J6 _ _)
 ·rw[B0,B0];exact D7 _
theorem Lo{G:Gr}{τ:PH}{K k:Nat}{D:fO}(w:G.Wf)(h:DL G τ K D)(hk:k<K):(HD G D k).length<=10∧∀p∈HD G D k,0<=p.2∧p.2<32768:=by
 refine⟨?_,λ p hp=>?_⟩
 ·unfold HD
  rw[A8]
  exact A9 (H4 ..) (by rw[D9];exact A9 (Nat.sub_le ..) w.names)
 ·refine A0 (D2.mp hp) λ i hZ=>?_;generalize hZ.1=hi;clear hp;obtain rfl:=hZ.2;try clear hZ
  exact⟨D0 (J5.mp hi).2,(h.HC hk _).1⟩
section
variable{W:Wd}(P:dQ W){n:Nat}{σ:PH}{V g T o:Addr}{B:Oa}{A:Aq}{G:Gr}{S:List St}{D:fO}{os:Ow}{Q:PV->PH->Prop}(w:G.Wf)(nm:VD G)(hG:pZ σ g G)(hV:Ir σ V g B G S)(hT:wI σ T A G S.length D)(au:yK G S)(hO:Ng σ o os)(oG:Ur G os)
include P w nm hG hV hT au hO oG
theorem KF{k:Nat}(hk:k<S.length)(q:∀B9,Ext σ B9->Q (.bool true) B9):J9 W (n+4) (.ref 922) [.ref V,.ref T,.ref o,C0 k] σ Q:=by
 have sh:=nm.sz
 have hs:S.getD k aA∈S:=B5 (W5 aA hk)
 have zi:(S.getD k aA).items.length<=15:=by rw[au.it _ hs];exact(au.ks _ hs).close.len w
 have zk:k<32768:=D1 hk au.len
 have z0:Sz 32770 (Z2 k):=Sz.Z2 (G6 k) (by lia)
 have rz:=(IR w sh hT.p hk).1
 have gz:=(QT w sh hT.p hk).2.1
 have rl:∀l:List (Str×Str),(Y9 l).length=l.length:=λ l=>A8 _
 have zl:(SN G D S B.ms k).length<=1000:=by
  have h1:=KM (iZ ([DG k,oS ""]++yC G S B.ms k) (Y9 (U9 G D k))) (Y9 (iN G D k))
  have h2:=KM ([DG k,oS ""]++yC G S B.ms k) (Y9 (U9 G D k))
  have h3:([DG k,oS ""]++yC G S B.ms k).length<=17:=by unfold yC;rw[B0,A8];show 2+_<=_;lia
  rw[rl]at h1 h2
  unfold SN
  rw[B0]
  show _+1<=_
  lia
 have hZ:=PQ w nm hT.p hk;delta hZ r1 r2
 have hZ:=lQ λ p hp=>(r1 p hp).1;delta hZ hZ hZ cr
 have hZ:=lQ r2;delta hZ hZ hZ cg
 have lz:∀l:List (Str×Str),(linesOf l).length=l.length:=λ l=>A8 _
 have gq:=XW G D k
 have hZ:=Lo w hT.p hk;delta hZ Xo bu
 refine P.fn kP 77 rfl (ρ:=[.ref V,.ref T,.ref o,C0 k,.M7,.M7,.M7,.M7,.M7,.M7,.M7,.M7]) rfl (K1 (T5 (F9 (H7 (I9 rfl (I9 rfl (p1 rfl))) (ZP (n:=n) P w sh hG hV hT au hk λ c1 aK E1 h1=>M0 (Fj (n:=n+2) P h1 zl λ c4 W9 ps E2 h4 Dc Ep=>?_))))))
 rw[WM w nm hT.p au hk]at Ep
 refine A0 (List.map_eq_cons_iff.mp Ep) λ y0 hZ=>?_;intros hZ ps Q0;obtain rfl:=Q0.1;generalize Q0.2=fT;delta fT e0 Ep;try clear Q0
 refine A0 (List.map_eq_cons_iff.mp Ep) λ y1 hZ=>?_;intros hZ ps Q0;obtain rfl:=Q0.1;generalize Q0.2=fT;delta fT e1 Ep;try clear Q0
 refine A0 (OY (λ b=>if b=true then linesOf (U9 G D k)else linesOf (iN G D k)) Ep) λ l hZ=>?_;generalize hZ.1=el;obtain rfl:=hZ.2;try clear hZ
 have q0:=Dc _ (.head _)
 have q1:=Dc _ (.tail _ (.head _))
 have ql:∀q∈l,W9 q.1=some (.list ((if q.2=true then linesOf (U9 G D k)else linesOf (iN G D k)).map .str)):=λ q hq=>Dc _ (.tail _ (.tail _ (J2 (f:=λ q:Addr×Bool=>(q.1,if q.2=true then linesOf (U9 G D k)else linesOf (iN G D k))) hq)))
 have q0:W9 y0.1=some (.list [.str (oS "State "++Z2 k)]):=by rw[e0]at q0;exact q0
 rw[e1]at q1
 clear Dc e0 e1 Ep
 have E2:=E1.trans E2
 have Yu:l.length<=2:=by
  rw[<-A8 (f:=(·.2)),el]
  unfold ZZ
  rw[B0]
  have h:∀(c:Prop) [Decidable c] (b:Bool),(if c then[]else[b]).length<=1:=λ c _ b=>by split;exact K3 _;exact D7 _
  exact S0 (h _ _) (h _ _)
 have h4:W9 c4=some (.list (.ref y0.1::.ref y1.1::l.map λ q=>.ref q.1)):=by rw[h4,I6,I6,G2];rfl
 have V2:=hV.ext E2
 have T2:=hT.ext E2
 refine iF (VN (uS (t:=false) ((N3 (V8 rfl (len_list h4 rfl)) rfl rfl).trans (C7 some (J8 ?_))) (VN (iB (P2 (I8 rfl rfl (I0 (k:=0) h4 rfl)) (bP (F9 (O6 (P2 rfl (H7 (p1 rfl) (CD (Tl zk) (w_add (.lit rfl:Sz 6 _) z0 rfl (M0 λ c5 EW=>⟨false,?_,zL (Za (H7 (I9 rfl (I9 rfl (I9 rfl (p1 (I8 rfl rfl (I0 (k:=1) (Ext.new EW _ _ _ h4) rfl)))))) (NV (n:=n+1) P w sh (hG.ext (E2.trans (Ext.new EW _))) (V2.ext (Ext.new EW _)) au (hO.ext (E2.trans (Ext.new EW _))) oG hk (Ext.new EW _ _ _ q1) λ Y8 E3=>⟨true,rfl,(λ h=>nomatch h),λ _=>O7 ?_⟩)))⟩)))))))))))))
 ·rw[H5,H5];show ¬(((_+1+1:Nat):Int)<2);lia
 ·show Option.map _ (Bi _ (.ref y0.1) (.ref c5))=_
  rw[iO (Ext.new EW _ _ _ q0) (PH.J7 ..) rfl];rfl
 have E3:Ext W9 Y8:=(Ext.new EW _).trans E3
 clear q0 q1 V2
 have h4:=E3 _ _ h4
 have T3:=T2.ext E3
 have ql:=λ q hq=>E3 _ _ (ql q hq)
 have E3:=E2.trans E3
 clear T2 E2 EW h1
 refine K1 (K7 (Led.start Y8) rfl λ c5 cH L=>K1 (K7 L rfl λ c6 eK L=>Z1 (LM L rfl (L.ext _ _ h4) rfl rfl rfl rfl rfl rfl (by rw[H5,H5,A8];lia) λ cs eW L=>?_)))
 refine Led.keep (L:=[(c5,PO.list []),(c6,.list [])]) (X:=[(cs,.list (fD (.ref y0.1::.ref y1.1::l.map λ q=>PV.ref q.1) (some 2) none))]) L λ Go E0 L0 fZ=>?_
 have Bg:Go cs=some (.list (l.map λ q=>PV.ref q.1)):=(fZ _ (.head _)).trans (C7 (λ x=>some (PO.list x)) (show fD (PV.ref y0.1::PV.ref y1.1::l.map λ q:Addr×Bool=>PV.ref q.1) (some 2) none=l.map λ q:Addr×Bool=>PV.ref q.1 from C7 (List.drop 2) (bZ (l:=PV.ref y0.1::PV.ref y1.1::l.map λ q:Addr×Bool=>PV.ref q.1))))
 clear fZ L h4
 let FA:List (Addr×Bool)->List (Str×Str):=λ pre=>pre.flatMap λ q=>if q.2=true then U9 G D k else[]
 let FG:List (Addr×Bool)->List (Str×Int):=λ pre=>pre.flatMap λ q=>if q.2=true then[]else HD G D k
 refine Z0 (λ v=>[.ref V,.ref T,.ref o,C0 k,.ref c4,.ref c5,.ref c6,v 7,v 8,v 9,v 10,v 11]) (l:=l) (f:=λ q=>.ref q.1) (λ pre _ B9=>∃τ,Ext Go τ∧Led τ B9 [(c5,.list ((FA pre).map wN)),(c6,.list ((FG pre).map kD))] []) rfl (qS (L0.ext _ _ Bg) Yu rfl) ⟨Go,.refl _,L0⟩ ?_ ?_
 ·intro pre p post u qB R hl hQ;intros hQ τ hZ;delta hZ E L;intro hR
  have hZ:=P5 hl;delta hZ hz hp
  have st:∀{B9},Ext Go B9->M9 eW (.ref cs) B9:=λ E=>(E _ _ Bg).trans (L0.ext _ _ Bg).symm
  have qp:=(E0.trans (E.trans L.ext)) _ _ (ql p hp)
  have za:(FA pre).length<=64*2:=A9 (VC (λ q=>by split;exact rz;exact K3 _) pre) (fA 64 (by lia))
  have zg:(FG pre).length<=10*2:=A9 (VC (λ q=>by split;exact K3 _;exact Xo) pre) (fA 10 (by lia))
  have ea:FA (pre++[p])=FA pre++if p.2=true then U9 G D k else[]:=by show List.flatMap _ _=_;rw[Q7,Q2]
  have eg:FG (pre++[p])=FG pre++if p.2=true then[]else HD G D k:=by show List.flatMap _ _=_;rw[Q7,Q2]
  rw[ea,eg]at hR
  generalize FA pre=acc at L hR za
  generalize FG pre=Yg at L hR zg
  clear ea eg
  clear E1 E2 L0 c1 Ep h4 hG hO hV Bg oG os q0 ql sh z0 Yu aK;clear hl hp;obtain⟨a,b⟩:=p
  refine Dj (H7 (p1 rfl) (Fu (n:=n+2) P qp (by split<;>rw[lz];exact rz;exact gz) λ cc IF E9 Uc UZ=>Led.keep (L:=[(c5,.list (acc.map wN)),(c6,.list (Yg.map kD))]) (L.adopt E9 Uc UZ) λ IE Ax L1 fZ=>?_))
  have UZ:=fZ _ (.head _)
  clear E9 Ep g gz h4 Uc fZ lz ql qp y0 y1;cases b with
  |true=>
   have UZ:IE cc=some (.list ((U9 G D k).map wN)):=UZ.trans (by rw[F7 rfl,cr])
   rw[F7 rfl,F7 rfl,C9]at hR
   refine QW (λ v=>[.ref V,.ref T,.ref o,C0 k,.ref c4,.ref c5,.ref c6,.ref a,v 8,v 9,v 10,v 11]) (l:=U9 G D k) (f:=λ p=>[.str p.1,.str p.2]) (λ p2 _ B9=>Led IE B9 [(c5,.list ((acc++p2).map wN)),(c6,.list (Yg.map kD))] []) rfl (qS (L1.ext _ _ UZ) rz rfl) (λ _=>rfl) (by rw[C9];exact L1) ?_ λ u B9 L=>s_end (hR .next _ _ trivial (st ((E.trans Ax).trans L.ext)) ⟨IE,E.trans Ax,L⟩ rfl)
   intro p2 x iG u2 iU R2 fM L bR
   have hZ:=P5 fM;delta hZ w7 hx
   rw[<-C6]at bR
   refine iF (PC (J1 rfl (dN rfl) (p1 rfl) (cD ⟨false,C7 some (r1 x hx).2,(λ h=>nomatch h),λ _=>N4 (aG 0 (x:=wN x) L rfl rfl rfl (by rw[A8,B0];lia) λ nZ _ L2=>O7 (s_end (bR .next _ _ trivial ((L2.ext _ _ UZ).trans (L1.ext _ _ UZ).symm) ?_ rfl)))⟩)))
   rw[Q5];exact L2
  |false=>
   have UZ:IE cc=some (.list ((HD G D k).map λ p=>wN (gx p))):=UZ.trans (by rw[G0 C5,cg,gq,G2];rfl)
   rw[G0 C5,G0 C5,C9]at hR
   refine QW (λ v=>[.ref V,.ref T,.ref o,C0 k,.ref c4,.ref c5,.ref c6,.ref a,v 8,v 9,v 10,v 11]) (l:=HD G D k) (f:=λ p=>[.str p.1,.str (oS "go to state "++Z2 p.2)]) (λ p2 _ B9=>Led IE B9 [(c5,.list (acc.map wN)),(c6,.list ((Yg++p2).map kD))] []) rfl (qS (L1.ext _ _ UZ) Xo rfl) (λ _=>rfl) (by rw[C9];exact L1) ?_ λ u B9 L=>s_end (hR .next _ _ trivial (st ((E.trans Ax).trans L.ext)) ⟨IE,E.trans Ax,L⟩ rfl)
   intro p2 x iG u2 iU R2 fM L bR
   have hZ:=P5 fM;delta hZ w7 hx
   have hZ:=bu x hx;delta hZ x0 x1
   rw[<-C6]at bR
   refine iF (PC (J1 rfl (dN rfl) (p1 rfl) (cD ⟨true,C7 some (KT.starts_app _ _),λ _=>N4 (T0 rfl (N9 (L.get 1 rfl) _) (F9 (dK (F9 (P2 rfl (F9 (T5 (F9 (rB rfl (V8 rfl rfl) rfl rfl rfl (M0 ?_)))))))))),λ h=>nomatch h⟩)))
   show J9 W (n+3) (.type "int") [.str (Txt.slice (oS "go to state "++Z2 x.2) (some ((oS "go to state ").length:Int)) none)] iU _
   rw[yN]
   refine Ag x0 (by lia) (M0 (M0 (aW 1 L rfl (by rw[A8,B0];lia) λ nZ _ L2=>O7 (s_end (bR .next _ _ trivial ((L2.ext _ _ UZ).trans (L1.ext _ _ UZ).symm) ?_ rfl)))))
   rw[Q5];exact L2
 ·intro u qB hQ;intros hQ τ hZ;delta hZ E L
  have ea:FA l=U9 G D k:=by
   show l.flatMap _=_
   have:l.flatMap (λ q=>if q.2=true then U9 G D k else[])=(l.map (·.2)).flatMap λ b=>if b=true then U9 G D k else[]:=by rw[List.flatMap_map]
   rw[this,el]
   unfold ZZ
   by_cases c:U9 G D k=[]<;>by_cases c2:iN G D k=[]
   ·rw[F7 c,F7 c2,c];rfl
   ·rw[F7 c,G0 c2,c];rfl
   ·rw[G0 c,F7 c2];exact C9 _
   ·rw[G0 c,G0 c2];exact C9 _
  have eg:FG l=HD G D k:=by
   show l.flatMap _=_
   have:l.flatMap (λ q=>if q.2=true then[]else HD G D k)=(l.map (·.2)).flatMap λ b=>if b=true then[]else HD G D k:=by rw[List.flatMap_map]
   rw[this,el]
   unfold ZZ
   have gn:iN G D k=[]->HD G D k=[]:=λ h=>mR.mp (gq.symm.trans h)
   by_cases c:U9 G D k=[]<;>by_cases c2:iN G D k=[]
   ·rw[F7 c,F7 c2,gn c2];rfl
   ·rw[F7 c,G0 c2];exact C9 _
   ·rw[G0 c,F7 c2,gn c2];rfl
   ·rw[G0 c,G0 c2];exact C9 _
  rw[ea,eg]at L
  clear ea eg
  have E:=E0.trans E
  have T4:=T3.ext E
  have E4:=E3.trans E
  refine K1 (K7 L rfl λ ZY IF L=>Z1 (H7 (I9 (D8 rfl ((T4.ob.ext L.ext).fld _)) (p1 (V8 (D8 rfl ((T4.ob.ext L.ext).fld _)) (len_list (L.ext _ _ T4.nm) (A8 _))))) (KJ (Z0 (λ v=>[.ref V,.ref T,.ref o,C0 k,.ref c4,.ref c5,.ref c6,v 7,v 8,v 9,.ref ZY,v 11]) (l:=List.range (G.names.length - G.tc)) (f:=λ i=>C0 (G.tc+i)) (λ pre _ B9=>Led τ B9 [(c5,.list ((U9 G D k).map wN)),(c6,.list ((HD G D k).map kD)),(ZY,.list (((pre.filter λ i=>decide (D.goal k (G.tc+i)>=0)).map λ i=>(aO G (G.tc+i),D.goal k (G.tc+i))).map kD))] []) rfl (QL w.tc (A9 w.names (by decide))) L ?_ λ u eK L=>?_))))
  ·intro pre i post u iU R hl L hR
   have hZ:=P9 hl;delta hZ hp hi
   have y2:=w.names
   have hz:((pre.filter λ i=>decide (D.goal k (G.tc+i)>=0)).map λ i=>(aO G (G.tc+i),D.goal k (G.tc+i))).length<=10:=by
    rw[A8]
    exact A9 (H4 ..) (by rw[hp,D9];exact DV hi y2)
   have TL:=T4.ext L.ext
   rw[G7,C1]at hR
   generalize (pre.filter λ i=>decide (D.goal k (G.tc+i)>=0)).map (λ i=>(aO G (G.tc+i),D.goal k (G.tc+i)))=acc at L hR hz
   refine iF (iB (J1 rfl (TL.ob.H2 "goto" rfl rfl) (I9 rfl (p1 rfl)) (NX (n:=n+2) P TL hk (P2 rfl ⟨decide (D.goal k (G.tc+i)>=0),rfl,λ h=>?_,λ h=>?_⟩))))
   ·rw[show[i].filter (λ i=>decide (D.goal k (G.tc+i)>=0))=[i]from J3 h]at hR
    refine N4 (T0 rfl (N9 (L.get 2 rfl) _) (F9 (dK (F9 (P2 (I8 (D8 rfl (TL.ob.fld _)) rfl (W8 sD TL.nm (by lia))) (F9 (J1 rfl (TL.ob.H2 "goto" rfl rfl) (I9 rfl (p1 rfl)) (NX (n:=n+2) P TL hk (M0 (M0 (aW 2 L rfl (by rw[A8];lia) λ nZ _ L2=>O7 (s_end (hR .next _ _ trivial trivial ?_ rfl)))))))))))))
    show Led τ nZ [_,_,(ZY,.list (List.map kD (acc++[(aO G (G.tc+i),D.goal k (G.tc+i))])))] _
    rw[Q5];exact L2
   ·rw[show[i].filter (λ i=>decide (D.goal k (G.tc+i)>=0))=[]from J4 (by rw[h];exact C5)]at hR
    exact O7 (s_end (hR .next _ _ trivial trivial (by rw[nN,C9];exact L) rfl))
  have L:Led τ eK [(c5,.list ((U9 G D k).map wN)),(c6,.list ((HD G D k).map kD)),(ZY,.list ((HD G D k).map kD))] []:=L
  have h5:=L.get 0 rfl
  have h6:=L.get 1 rfl
  have Lm:=L.get 2 rfl
  have E5:=E4.trans L.ext
  have i6:(HD G D k).length<64:=H8 Xo (by decide)
  clear L
  refine W3 (v_and (DO (H7 (p1 rfl) (pX h6 i6 λ a1 b1=>H7 (p1 rfl) (pX (Ext.new b1 _ _ _ Lm) i6 λ a2 b2=>⟨true,iO (Ext.new b2 _ _ _ (PH.J7 ..)) (PH.J7 ..) (pM _),true,rfl,?_⟩)))))
  have Aw:=(Ext.new b1 (.list ((oA (HD G D k)).map kD))).trans (Ext.new b2 (.list ((oA (HD G D k)).map kD)))
  generalize (eK.set a1 _).set a2 _=rA at Aw ⊢
  exact H7 (I9 rfl (I9 rfl (p1 rfl))) (UE (n:=n+1) P w nm (hT.ext (E5.trans Aw)) au.len hk (Aw _ _ h5) λ B9 E'=>q B9 ((E5.trans Aw).trans E'))
end
def sA:Str:=oS "a"
def sB:Str:=oS "b"
def acc:Str:=oS "$accept"
def W4:List Str:=[sA,sB,sS,sT]
def TT:List (List Str):=[yA,yA++[sA],yA++[sB],yA++[sA,sB],yA++[sB,sA]]
def MT(ts:List Str):List Str:=ts++[acc]++[sS,sT]
theorem Bs:∀l∈TT,∀y∈W4,kA [sS,sT] l y∈TT:=by decide+kernel
theorem Oz:∀ts∈TT,And (MT ts).Nodup (And (3<=ts.length) (And (ts.length<=5) (And (∀y∈W4,(MT ts).idxOf y≠ts.length) (And ((MT ts)[ts.length]? =some acc) (And ((MT ts)[0]? =some (oS "$end")) (oS "$default"∉MT ts)))))):=by decide+kernel
theorem Oy:∀ts∈TT,∀x∈MT ts,And ((cp x).all (λ c=>decide (And (33<=c) (c<127)))=true) (And ((cp x).isEmpty=false) (x.length<=10)):=by decide+kernel
theorem OZ:∀{ws l:List Str},l∈TT->(∀y∈ws,y∈W4)->ws.foldl (kA [sS,sT]) l∈TT∧∀y,y∈l∨(y∈ws∧y∉[sS,sT])->y∈ws.foldl (kA [sS,sT]) l
 |[],l,h,_=>⟨h,λ y hy=>hy.elim id λ h=>nomatch h.1⟩
 |x::ws,l,h,hw=>by
  have hZ:=OZ (Bs l h x (hw x (.head _))) λ y hy=>hw y (.tail _ hy);delta hZ h1 h2
  refine⟨h1,λ y hy=>h2 y ?_⟩
  have keep:y∈l->y∈kA [sS,sT] l x:=λ h=>by unfold kA;split;exact h;exact G9 _ h
  clear h2 h1;rcases hy with hy|⟨hy,ny⟩
  ·exact .inl (keep hy)
  ·clear keep;rcases F8.mp hy with rfl|hy
   ·refine .inl ?_
    unfold kA
    split
    ·rename_i c;exact c.resolve_left ny
    ·exact G4 _ (.head _)
   ·exact .inr ⟨hy,ny⟩
theorem VL:∀{ps:xK} {l:List Str},l∈TT->(∀x∈ps,∀y∈x.1.2,y∈W4)->ps.foldl (λ l x=>x.1.2.foldl (kA [sS,sT]) l) l∈TT∧∀y,y∈l∨((∃x∈ps,y∈x.1.2)∧y∉[sS,sT])->y∈ps.foldl (λ l x=>x.1.2.foldl (kA [sS,sT]) l) l
 |[],l,h,_=>⟨h,λ y hy=>hy.elim id λ⟨⟨_,h,_⟩,_⟩=>nomatch h⟩
 |x::ps,l,h,hw=>by
  have hZ:=OZ h (hw x (.head _));delta hZ h1 h2
  have hZ:=VL h1 λ z hz=>hw z (.tail _ hz);delta hZ h3 h4
  refine⟨h3,λ y hy=>h4 y ?_⟩
  clear h4 h3 h1;rcases hy with hy|⟨⟨z,hz,hy⟩,ny⟩
  ·exact .inl (h2 y (.inl hy))
  ·rcases F8.mp hz with rfl|hz
   ·exact .inl (h2 y (.inr ⟨hy,ny⟩))
   ·exact .inr ⟨⟨z,hz,hy⟩,ny⟩
def Yn(ps:xK):Prop:=∃(a1:Addr) (w1:List Str) (a2:Addr) (x2:Str) (a3:Addr) (w3:List Str) (rest:xK),ps=[((sS,w1),a1),((sS,[x2]),a2),((sT,w3),a3)]++rest∧w1.length<=3∧w3.length<=1∧(∀y∈w1++x2::w3,y∈W4)∧
 (rest=[]∨∃l w a,rest=[((l,w),a)]∧(l=sS∨l=sT)∧w.length<=3∧∀y∈w,y∈W4)
theorem NJ{l:List Str}{x:Str}(h:x∈l):l[l.idxOf x]? =some x∧l.getD (l.idxOf x) sD=x:=by
 have h1:=Y5.mpr h
 have e:l[l.idxOf x]? =some x:=by rw[C4 h1,nW]
 exact⟨e,by rw[C2,e];rfl⟩
section
variable{ps:xK}(h:Yn ps)
include h
theorem Qc:KQ ps∧VD (Q8 ps)∧∀(a:Addr),Ur (Q8 ps) ((acc,a,[sS,oS "$end"])::ps.map λ x=>(x.1.1,x.2,x.1.2)):=by
 intros h a1 hZ;intros hZ w1 Q0;intros Q0 a2 P4;intros P4 x2 fT;intros fT a3 rZ;intros rZ w3 nR;intros nR rest uB;delta uB e z1 z3 hw hr
 have hl:∀x∈ps,x.1.1=sS∨x.1.1=sT:=λ x hx=>by
  rw[e]at hx
  rcases G8.mp hx with hx|hx
  ·rcases F8.mp hx with rfl|hx;exact .inl rfl
   rcases F8.mp hx with rfl|hx;exact .inl rfl
   rewrite[D5.mp hx];exact .inr rfl
  ·rcases hr with hr|⟨l,w,a,hr,h1,_⟩
   ·rw[hr]at hx;nomatch hx
   ·rw[hr]at hx;rewrite[D5.mp hx];exact h1
 have Ts:∀x∈ps,x.1.2.length<=3∧∀y∈x.1.2,y∈W4:=λ x hx=>by
  rw[e]at hx
  rcases G8.mp hx with hx|hx
  ·rcases F8.mp hx with rfl|hx;exact⟨z1,λ y hy=>hw y (G9 _ hy)⟩
   rcases F8.mp hx with rfl|hx;exact⟨C3 rfl,λ y hy=>hw y (G4 _ (D5.mp hy▸.head _))⟩
   rewrite[D5.mp hx];exact⟨A9 z3 (by decide),λ y hy=>hw y (G4 _ (.tail _ hy))⟩
  ·rcases hr with hr|⟨l,w,a,hr,_,h2,h3⟩
   ·rw[hr]at hx;nomatch hx
   ·rw[hr]at hx;rewrite[D5.mp hx];exact⟨h2,h3⟩
 have hle:bQ ps=[sS,sT]:=by
  rw[e]
  have h0:bQ [((sS,w1),a1),((sS,[x2]),a2),((sT,w3),a3)]=[sS,sT]:=by
   show eI (eI (eI [] sS) sS) sT=_
   decide+kernel
  unfold bQ at h0 ⊢
  rw[K9,h0]
  rcases hr with hr|⟨l,w,a,hr,h1,_⟩
  ·rw[hr];rfl
  ·rw[hr]
   show eI [sS,sT] l=_
   clear hr;rcases h1 with rfl|rfl<;>decide+kernel
 have hZ:=VL (ps:=ps) (l:=yA) (.head _) λ x hx=>(Ts x hx).2;delta hZ t1 t2
 have t1:V3 [sS,sT] ps∈TT:=t1
 have hZ:=Oz _ t1;generalize hZ.1=n1;generalize hZ.2=Q0;generalize Q0.1=n2;generalize Q0.2=P4;generalize P4.1=n3;generalize P4.2=fT;generalize fT.1=n4;generalize fT.2=rZ;generalize rZ.1=n5;generalize rZ.2=nR;delta nR n6 n7;try clear rZ;try clear fT;try clear P4;try clear Q0;try clear hZ
 have nw:=Oy _ t1
 have en:(Q8 ps).names=MT (V3 [sS,sT] ps):=rfl
 have et:(Q8 ps).tc=(V3 [sS,sT] ps).length:=rfl
 have mS:sS∈(Q8 ps).names:=G4 _ (.head _)
 have mT:sT∈(Q8 ps).names:=G4 _ (.tail _ (.head _))
 have mem:∀x∈ps,∀y∈x.1.2,y∈(Q8 ps).names:=λ x hx y hy=>by
  by_cases c:y∈[sS,sT]
  ·clear hy;rcases F8.mp c with rfl|c;exact mS
   rw[D5.mp c];exact mT
  ·exact G9 _ (G9 _ (t2 y (.inr ⟨⟨x,hx,hy⟩,c⟩)))
 have lm:∀x∈ps,x.1.1∈(Q8 ps).names:=λ x hx=>(hl x hx).elim (λ e=>e▸mS) λ e=>e▸mT
 have er:(Q8 ps).rules=⟨(Q8 ps).tc,[(Q8 ps).names.idxOf sS,0]⟩::ps.map λ x=>⟨(Q8 ps).names.idxOf x.1.1,x.1.2.map (Q8 ps).names.idxOf⟩:=rfl
 have nl:(Q8 ps).names.length=(Q8 ps).tc+3:=by rw[en,et];unfold MT;rw[B0,B0];rfl
 have ii:∀{y},y∈(Q8 ps).names->(Q8 ps).names.idxOf y<(Q8 ps).names.length:=λ h=>Y5.mpr h
 have pl:ps.length<=4:=by
  rw[e]
  rcases hr with hr|⟨l,w,a,hr,_⟩<;>rw[hr]
  ·exact cN 3
  ·exact D7 4
 have wS:sS∈W4:=.tail _ (.tail _ (.head _))
 have wf:(Q8 ps).Wf:=by
  refine⟨λ r hr=>?_,λ r hr x hx=>?_,λ r hr=>?_,?_,?_,?_,?_,?_,λ r hr hx=>?_,?_,n2,n3⟩
  ·rw[er]at hr
   rcases F8.mp hr with rfl|hr
   ·show(Q8 ps).tc<_;rw[nl];exact gJ (by decide)
   ·refine A0 (D2.mp hr) λ x hZ=>?_;generalize hZ.1=hx;obtain rfl:=hZ.2;try clear hZ;exact ii (lm x hx)
  ·rw[er]at hr
   rcases F8.mp hr with rfl|hr
   ·rcases F8.mp hx with rfl|hx
    ·exact ii mS
    ·rw[D5.mp hx,nl];exact eO _
   ·refine A0 (D2.mp hr) λ y hZ=>?_;generalize hZ.1=hy;clear hr;obtain rfl:=hZ.2;try clear hZ
    refine A0 (D2.mp hx) λ z hZ=>?_;generalize hZ.1=hz;clear hx;obtain rfl:=hZ.2;try clear hZ
    exact ii (mem y hy z hz)
  ·rw[er]at hr
   rcases F8.mp hr with rfl|hr
   ·exact C3 rfl
   ·refine A0 (D2.mp hr) λ x hZ=>?_;generalize hZ.1=hx;obtain rfl:=hZ.2;try clear hZ
    show(x.1.2.map _).length<=3
    rw[A8];exact(Ts x hx).1
  ·rw[er,H5,A8];lia
  ·rw[nl,et];lia
  ·rw[er];exact eO _
  ·show(gP _ 0).length<=15
   rw[pQ,er,I6,G2,qX]
   have f:∀l:xK,(l.map ((λ r:Rl=>r.right.length+1)∘λ x=>(⟨(Q8 ps).names.idxOf x.1.1,x.1.2.map (Q8 ps).names.idxOf⟩:Rl)))=l.map λ x=>x.1.2.length+1:=λ l=>P1 λ x _=>by show(x.1.2.map _).length+1=_;rw[A8]
   rw[f,e,C1,List.sum_append]
   show 3+((w1.length+1)+((1+1)+((w3.length+1)+0))+_)<=15
   rcases hr with hr|⟨l,w,a,hr,_,h2,_⟩<;>rw[hr]
   ·show 3+(_+0)<=15;lia
   ·show 3+(_+(w.length+1+0))<=15;lia
  ·rw[nl];exact J6 _ _
  ·rw[er]at hr
   rcases F8.mp hr with rfl|hr
   ·rcases F8.mp hx with hx|hx
    ·exact n4 sS wS hx.symm
    ·have:(Q8 ps).tc=0:=D5.mp hx
     rw[et]at this;lia
   ·refine A0 (D2.mp hr) λ y hZ=>?_;generalize hZ.1=hy;clear et hr t1 wS;clear hr;obtain rfl:=hZ.2;try clear hZ
    refine A0 (D2.mp hx) λ z hZ=>?_;delta hZ hz e
    exact n4 z ((Ts y hy).2 z hz) e
  ·rfl
 refine⟨⟨pl,λ x hx=>(Ts x hx).1,hl,hle,mem,wf⟩,⟨n1,λ x hx=>VF (nw x hx).1 (nw x hx).2.1,λ x hx=>(nw x hx).2.2,n7⟩,λ a i hi=>?_⟩
 cases i with
 |zero=>
  have e0:(Q8 ps).rules.getD 0 oE=⟨(Q8 ps).tc,[(Q8 ps).names.idxOf sS,0]⟩:=by rw[C2,er];rfl
  rw[e0]
  refine⟨a,C7 some (kG ?_ (kG rfl ?_))⟩
  ·show acc=(Q8 ps).names.getD (Q8 ps).tc sD
   rw[C2,show(Q8 ps).names[(Q8 ps).tc]? =some acc from n5];rfl
  ·show[sS,oS "$end"]=[(Q8 ps).names.getD ((Q8 ps).names.idxOf sS) sD,(Q8 ps).names.getD 0 sD]
   rw[(NJ mS).2,C2,show(Q8 ps).names[0]? =some (oS "$end")from n6];rfl
 |succ i=>
  rw[er,H5,A8]at hi
  have hi:=Nat.lt_of_succ_lt_succ hi
  have ex:=C4 hi
  have hx:=sJ hi
  have eg:(Q8 ps).rules.getD (i+1) oE=⟨(Q8 ps).names.idxOf ps[i].1.1,ps[i].1.2.map (Q8 ps).names.idxOf⟩:=by
   rw[C2,er,gM,H9,ex];rfl
  refine⟨ps[i].2,?_⟩
  rw[gM,H9,ex,eg]
  refine C7 some (kG ?_ (kG rfl ?_))
  ·exact((NJ (lm _ hx)).2).symm
  ·show ps[i].1.2=(ps[i].1.2.map _).map _
   rw[G2]
   exact((P1 λ y hy=>(NJ (mem _ hx y hy)).2).trans (gK _)).symm
end
section
theorem VH{W:Wd}{n:Nat}{σ:PH}{ρ:List PV}{Q:PV->PH->Prop}{e:PE}(he:pv σ ρ e=some (.ref W.xN))(hz:W.PJ.length<=63)(k:∀c B9,Led σ B9 [(c,.list ((W.PJ.take 24).map .int))] []->Q (.ref c) B9):(wp W tb n (.wP e .absent (.int 24))).v ρ σ Q:=
 X4 e he ⟨W.PJ.map .int,none,some 24,.inr ⟨rfl,rfl⟩,rfl,rfl,rfl,AY (d:=24) (by decide),by rw[A8];exact A9 hz (by decide),λ c hc=>by
  have e:fD (W.PJ.map PV.int) none (some 24)=(W.PJ.take 24).map .int:=List.map_take.symm
  rw[e];exact k c _ ((Led.start σ).alloc hc _)⟩
variable{W:Wd}(P:dQ W){n:Nat}{σ:PH}{Q:PV->PH->Prop}
include P
theorem Sg(hz:W.PJ.length<=63)(q:∀c B9 (m:Nat),Led σ B9 [(c,.list [C0 m,.int 0])] []->Q (.ref c) B9):J9 W (n+1) (.ref 860) [.ref W.xN] σ Q:=by
 refine P.fn ED 67 rfl (ρ:=[.ref W.xN,.M7,.M7]) rfl (P3 rfl (Z1 (VH rfl hz λ cs aK L0=>?_)))
 have h0:=L0.get 0 rfl
 refine Z0 (λ v=>[.ref W.xN,v 1,v 2]) (l:=W.PJ.take 24) (f:=.int) (λ _ v B9=>(∃m:Nat,v 1=C0 m)∧B9=aK) rfl (qS h0 (by rw[Y1];exact Nat.min_le_left ..) rfl) ⟨⟨0,rfl⟩,rfl⟩ ?_ ?_
 ·intro pre c post u W9 R hl hQ;refine A0 hQ.1 λ m hm=>?_;clear L0 h0;obtain rfl:=hQ.2;try clear hQ;intro hR
  refine K1 (O6 (O6 (O6 (O6 (P2 (rH hm rfl) (P2 rfl ⟨.inr ⟨by decide,by decide⟩,O6 (P2 rfl (H7 (p1 rfl) (Sl ⟨.inl ⟨by decide,by decide⟩,v_ite (uS (t:=decide (c<0)) (N3 rfl rfl rfl) ?_)⟩)))⟩))))))
  have z:(0:Int)<=m:=G6 m
  have fin:∀j:Int,0<=j->S8 W tb n .nil (([.ref W.xN,u 1,u 2].set 2 (.int c)).set 1 (.int ((((m:Int)*1000003+2*(if c<0 then -c else c))+j)+1))) W9 R:=λ j hj=>s_end (hR .next _ _ trivial rfl ⟨⟨((((m:Int)*1000003+2*(if c<0 then -c else c))+j)+1).toNat,by
   show PV.int _=.int _
   rw[Int.toNat_of_nonneg (by split<;>lia)]⟩,rfl⟩ rfl)
  cases decide (c<0)with
  |true=>exact P2 rfl (P2 rfl (fin 1 (by decide)))
  |false=>exact P2 rfl (P2 rfl (fin 0 (by decide)))
 ·intro u W9 hQ;refine A0 hQ.1 λ m hm=>?_;clear h0;obtain rfl:=hQ.2;try clear hQ
  exact W3 (K7 (L:=[]) (R:=[(cs,.list ((W.PJ.take 24).map .int))]) (L0.perm (.refl _)) (I9 (rH hm rfl) (I9 rfl Hh)) λ c B9 L=>q c B9 m (L.sub (qY ..)))
theorem pF{C8:PH}{L R:List (Addr×PO)}{pa:Addr}{m t many:Nat}(hL:Led C8 σ ((pa,.list [C0 m,C0 t])::L) R)(ht:t<=1000)(hm:1<=many)(q:∀d m' B9,d<many->Led C8 B9 ((pa,.list [C0 m',C0 (t+1)])::L) R->Q (C0 d) B9):J9 W (n+1) (.ref 867) [.ref pa,C0 many] σ Q:=by
 have nz:(many:Int)≠0:=Int.natCast_ne_zero.mpr (Nat.ne_of_gt hm)
 have fm:∀a:Nat,Int.fmod (a:Int) (many:Int)=((a%many:Nat):Int):=λ a=>by rw[Int.fmod_eq_emod_of_nonneg _ (G6 _)];rfl
 have fd:∀a:Nat,Int.fdiv (a:Int) (many:Int)=((a/many:Nat):Int):=λ a=>by rw[nY _ (G6 _)];rfl
 refine P.fn zY 68 rfl (ρ:=[.ref pa,C0 many,.M7]) rfl (mV 0 (x:=C0 (t+1)) (j:=1) hL rfl (jJ (I8 rfl rfl (I0 (k:=1) (hL.get 0 rfl) rfl)) rfl rfl) rfl rfl (K5 1) λ aK _ L1=>?_)
 have L1:Led C8 aK ((pa,.list [C0 m,C0 (t+1)])::L) R:=L1
 refine cZ (t:=decide ((m:Int)>0)) (N3 (I8 rfl rfl (I0 (k:=0) (L1.get 0 rfl) rfl)) rfl rfl) (λ _=>?_) λ _=>O7 ?_
 ·refine K1 (O6 (P2 (I8 rfl rfl (I0 (k:=0) (L1.get 0 rfl) rfl)) (P2 rfl ⟨nz,?_⟩)))
  rw[fm]
  refine zR (O6 (P2 (I8 rfl rfl (I0 (k:=0) (L1.get 0 rfl) rfl)) (P2 rfl ⟨nz,?_⟩)))
  rw[fd]
  refine P2 rfl (P2 rfl (VG 0 L1 rfl (j:=0) (eO 1) λ W9 _ L2=>W3 (P2 rfl (q _ _ W9 (Nat.mod_lt _ hm) L2))))
 ·refine W3 (O6 (O6 (O6 (P2 (I8 rfl rfl (I0 (k:=1) (L1.get 0 rfl) rfl)) (P2 (I8 rfl rfl (I0 (k:=1) (L1.get 0 rfl) rfl)) ⟨.inl ⟨by lia,by lia⟩,P2 rfl (P2 rfl ⟨nz,?_⟩)⟩)))))
  show Q (.int (Int.fmod (((t+1:Nat):Int)*((t+1:Nat):Int)+1) (many:Int))) aK
  rw[show(((t+1:Nat):Int)*((t+1:Nat):Int)+1)=(((t+1)*(t+1)+1:Nat):Int)from rfl,fm]
  exact q _ _ aK (Nat.mod_lt _ hm) L1
end
def T6:List Str:=[sA,sB,sS,sT,sS,sA]
theorem t6:∀y∈T6,y∈W4:=by decide+kernel
abbrev SU(m t:Nat):PO:=.list [C0 m,C0 t]
structure Oe(τ:PH)(ps:xK):Prop where
 r:∀x∈ps,τ x.2=some (.list (x.1.2.map .str))
theorem Oe.ext{σ B9:PH}(E:Ext σ B9){ps:xK}(h:Oe σ ps):Oe B9 ps:=⟨λ x hx=>E _ _ (h.r x hx)⟩
abbrev ST(ps:xK):PO:=.list (ps.map λ x=>.tup (Hf x))
theorem w_addN{σ:PH}{Q:PV->PH->Prop}{i j:Nat}(q:Q (C0 (i+j)) σ):mM .Add σ Q (C0 i) (C0 j):=q
theorem t2:∀y∈[sA,sB],y∈W4:=by decide+kernel
section
variable{W:Wd}(P:dQ W){n:Nat}{σ C8:PH}{L:List (Addr×PO)}{pa:Addr}{m t:Nat}{Q:PV->PH->Prop}
include P
theorem RR{len:Nat}(hL:Led C8 σ ((pa,SU m t)::L) [])(ht:t<=900)(hz:len<=3)(q:∀(c:Addr) (m':Nat) (ws:List Str) (B9:PH),ws.length=len->(∀y∈ws,y∈W4)->Led C8 B9 ((pa,SU m' (t+len))::L++[(c,.list (ws.map .str))]) []->Q (.ref c) B9):J9 W (n+2) (.ref 872) [.ref pa,C0 len] σ Q:=by
 refine P.fn wT 69 rfl (ρ:=[.ref pa,C0 len]) rfl (W3 (jF (H7 (p1 rfl) (aP ⟨_,fH (A9 hz (by decide)),comp_map (λ pre acc B9=>∃(m':Nat) (ws:List Str),acc=ws.map PV.str∧ws.length=pre.length∧(∀y∈ws,y∈W4)∧Led C8 B9 ((pa,SU m' (t+pre.length))::L) []) ⟨m,[],rfl,rfl,λ _ h=>(nomatch h),hL⟩ ?_ ?_⟩))))
 ·intro pre i post acc aK R hl hQ;intros hQ m' hZ;intros hZ ws Q0;obtain rfl:=Q0.1;delta Q0 Q0 e1 e2 L1;intro hR
  have hp:=(P5 hl).1
  rw[D9]at hp
  have e3:(pre++[i]).length=pre.length+1:=B0
  rw[e3]at hR
  refine⟨[C0 i],rfl,uS rfl (v_sub (P2 (x:=.tup (T6.map .str)) rfl (H7 (I9 rfl (p1 rfl)) (pF (n:=n) (many:=6) P L1 (by lia) (by decide) λ d m2 W9 hd L2=>⟨.str (T6.getD d sD),fP (V5 (W5 sD hd)),hR (some (.str (T6.getD d sD))) W9 trivial ⟨m2,ws++[T6.getD d sD],?_,?_,T8 e2 (t6 _ (B5 (W5 sD hd))),L2⟩⟩))))⟩
  ·rw[Q5]
  ·rw[B0,e1];rfl
 ·intro acc aK hQ;intros hQ m' hZ;intros hZ ws Q0;obtain rfl:=Q0.1;delta Q0 Q0 e1 e2 L1;intro c hc
  rw[D9]at e1 L1
  exact q c m' ws _ e1 e2 (L1.alloc hc _)
theorem Fk(hL:Led C8 σ [(pa,SU m t)] [])(ht:t<=100)(q:∀(c:Addr) (τ:PH) (m' t':Nat) (ps:xK) (B9:PH),t'<=900->Yn ps->Ext C8 τ->Oe τ ps->Led τ B9 [(pa,SU m' t'),(c,ST ps)] []->Q (.ref c) B9):J9 W (n+3) (.ref 879) [.ref pa] σ Q:=by
 refine P.fn wV 70 rfl (ρ:=[.ref pa,.M7,.M7,.M7,.M7]) rfl (K1 (H7 (I9 rfl (p1 rfl)) (pF (n:=n+1) (many:=2) P hL (by lia) (by decide) λ more m1 aK hm L1=>?_)))
 refine K1 (bP (F9 (dK (F9 (P2 rfl (F9 (T5 (F9 (P2 rfl (F9 (O6 (P2 rfl (H7 (I9 rfl (p1 rfl)) (pF (n:=n+1) (many:=3) P L1 (by lia) (by decide) λ d1 m2 W9 d7 L2=>w_addN (i:=1) (M0 (RR (n:=n) (len:=1+d1) P L2 (by lia) (by lia) λ a1 m3 w1 Y8 e1 k1 L3=>M0 (M0 λ c2 Bh=>?_)))))))))))))))))
 have L4:=L3.alloc Bh (ST [((sS,w1),a1)])
 generalize Kw:Y8.set c2 _=bK
 rw[show Y8.set c2 (ST [((sS,w1),a1)])=bK from Kw]at L4
 have L4:Led C8 bK ((pa,SU m3 (t+1+1+(1+d1)))::[(a1,.list (w1.map .str)),(c2,ST [((sS,w1),a1)])]) []:=L4
 refine N4 (T0 rfl (N9 (L4.get 2 rfl) _) (F9 (dK (F9 (P2 rfl (F9 (bP (F9 (v_sub (P2 (x:=.tup ([sA,sB].map .str)) rfl (H7 (I9 rfl (p1 rfl)) (pF (n:=n+1) (many:=2) P L4 (by lia) (by decide) λ d2 m4 cH hd2 L5=>⟨.str ([sA,sB].getD d2 sD),fP (V5 (W5 sD hd2)),M0 λ a2 d8=>M0 (M0 ?_)⟩))))))))))))
 have kx:[sA,sB].getD d2 sD∈W4:=t2 _ (B5 (W5 sD hd2))
 generalize [sA,sB].getD d2 sD=x2 at kx d8 ⊢
 have L6:=L5.alloc d8 (.list [.str x2])
 generalize cH.set a2 _=eK at L6 ⊢
 refine aW 2 L6 rfl (C3 rfl) λ eW _ L7=>?_
 have L7:Led C8 eW ((pa,SU m4 (t+1+1+(1+d1)+1))::[(a1,.list (w1.map .str)),(c2,ST [((sS,w1),a1),((sS,[x2]),a2)]),(a2,.list ([x2].map .str))]) []:=L7
 refine N4 (T0 rfl (N9 (L7.get 2 rfl) _) (F9 (dK (F9 (P2 rfl (F9 (v_sub (bP (F9 (K7 L7 rfl λ e1 qB L8=>F9 (K7 (xs:=[.str sA]) L8 rfl λ e2 IF L9=>M0 λ e3 aw=>?_)))))))))))
 have L9:=L9.alloc aw (.list [.ref e1,.ref e2])
 generalize IF.set e3 _=iU at L9 ⊢
 refine H7 (I9 rfl (p1 rfl)) (pF (n:=n+1) (many:=2) P L9 (by lia) (by decide) λ d3 m5 nZ ba OM=>?_)
 obtain⟨a3,w3,g1,g2,g3,g4⟩:∃(a3:Addr) (w3:List Str),[PV.ref e1,.ref e2][d3]? =some (.ref a3)∧(a3,PO.list (w3.map .str))∈[(e1,PO.list []),(e2,.list [.str sA])]∧w3.length<=1∧∀y∈w3,y∈W4:=
  Zn (C:=λ d3=>∃(a3:Addr) (w3:List Str),[PV.ref e1,.ref e2][d3]? =some (.ref a3)∧(a3,PO.list (w3.map .str))∈[(e1,PO.list []),(e2,.list [.str sA])]∧w3.length<=1∧∀y∈w3,y∈W4) ba ⟨e1,[],rfl,.head _,K3 _,λ _ h=>nomatch h⟩ ⟨e2,[sA],rfl,.tail _ (.head _),D7 _,λ y h=>D5.mp h▸.head _⟩
 refine⟨.ref a3,I0 (OM.get 6 rfl) g1,M0 (M0 (aW 2 OM rfl (C3 rfl) λ rA _ Gl=>?_))⟩
 have Gl:=Gl.perm (L':=[(pa,SU m5 (t+1+1+(1+d1)+1+1)),(c2,ST [((sS,w1),a1),((sS,[x2]),a2),((sT,w3),a3)])]++[(a1,.list (w1.map .str)),(a2,.list ([x2].map .str)),(e1,.list []),(e2,.list [.str sA]),(e3,.list [.ref e1,.ref e2])]) (R':=[]) (.cons _ (.swap ..))
 refine Gl.keep λ Go E0 Gk fZ=>?_
 have i3:Oe Go [((sS,w1),a1),((sS,[x2]),a2),((sT,w3),a3)]:=⟨λ x hx=>by
  rcases F8.mp hx with rfl|hx;exact fZ _ (.head _)
  rcases F8.mp hx with rfl|hx;exact fZ _ (.tail _ (.head _))
  rewrite[D5.mp hx]
  refine fZ (a3,.list (w3.map .str)) (G9 _ (.tail _ (.tail _ ?_)))
  exact G9 [(e3,PO.list [.ref e1,.ref e2])] g2⟩
 have zt:t+1+1+(1+d1)+1+1<=110:=by lia
 have lw:∀rest:xK,(rest=[]∨∃l w a,rest=[((l,w),a)]∧(l=sS∨l=sT)∧w.length<=3∧∀y∈w,y∈W4)->Yn ([((sS,w1),a1),((sS,[x2]),a2),((sT,w3),a3)]++rest):=λ rest h=>⟨a1,w1,a2,x2,a3,w3,rest,rfl,by lia,g3,λ y hy=>(G8.mp hy).elim (k1 y) λ h=>(F8.mp h).elim (λ e=>e▸kx) (g4 y),h⟩
 clear fZ Gl OM L9 L8 L7 L6 L5 L4 L3 L2 L1 g2
 generalize t+1+1+(1+d1)+1+1=t5 at Gk zt
 have o7:[((sS,w1),a1),((sS,[x2]),a2),((sT,w3),a3)].length<=3:=D7 _
 generalize [((sS,w1),a1),((sS,[x2]),a2),((sT,w3),a3)]=b3 at Gk i3 lw o7
 refine Z1 (H7 (p1 rfl) (aP (Z0 (λ v=>[.ref pa,C0 more,.ref c2,v 3,v 4]) (l:=List.range more) (f:=C0) (λ pre _ B9=>∃(τ:PH) (m t:Nat) (rest:xK),Ext Go τ∧t<=110+10*pre.length∧Led τ B9 [(pa,SU m t),(c2,ST (b3++rest))] []∧Oe τ (b3++rest)∧rest.length=pre.length∧∀x∈rest,(x.1.1=sS∨x.1.1=sT)∧x.1.2.length<=3∧∀y∈x.1.2,y∈W4) rfl (fH (A9 (M8 hm) (by decide))) ⟨Go,m5,t5,[],.refl _,zt,by rw[C9];exact Gk,by rw[C9];exact i3,rfl,λ _ h=>(nomatch h)⟩ ?_ ?_)))
 ·intro pre i post u FQ R hl hQ;intros hQ τ hZ;intros hZ m6 Q0;intros Q0 Vk P4;intros P4 rest fT;delta fT E1 z6 L hI zr hr;intro hR
  have hp:=(P5 hl).1
  rw[D9]at hp
  have cv:(pre++[i]).length=pre.length+1:=B0
  rw[cv]at hR
  have zb:(b3++rest).length<=2^24:=by rw[B0];lia
  refine K1 (v_sub (P2 (x:=.tup ([sS,sT].map .str)) rfl (H7 (I9 rfl (p1 rfl)) (pF (n:=n+1) (many:=2) P L (by lia) (by decide) λ d m7 On hd L=>⟨.str ([sS,sT].getD d sD),fP (V5 (W5 sD hd)),N4 (T0 rfl (N9 (L.get 1 rfl) _) (F9 (dK (F9 (P2 rfl (F9 (T5 (F9 (P2 rfl (F9 (H7 (I9 rfl (p1 rfl)) (pF (n:=n+1) (many:=4) P L (by lia) (by decide) λ d4 m8 Iv fj L=>M0 (RR (n:=n) (len:=d4) P L (by lia) (by lia) λ a4 m9 w4 Om e4 k4 L=>M0 (M0 (aW 1 L rfl (by rw[A8];exact zb) λ Bo _ L=>?_)))))))))))))))⟩))))
  have VA:[sS,sT].getD d sD=sS∨[sS,sT].getD d sD=sT:=Zn (C:=λ d=>[sS,sT].getD d sD=sS∨[sS,sT].getD d sD=sT) hd (.inl rfl) (.inr rfl)
  generalize [sS,sT].getD d sD=l4 at L VA ⊢
  refine Led.keep (L:=[(pa,SU m9 (Vk+1+1+d4)),(c2,ST (b3++(rest++[((l4,w4),a4)])))]) (X:=[(a4,.list (w4.map .str))]) (R:=[]) ?_ λ IE E2 L fZ=>s_end (hR .next _ _ trivial trivial ⟨IE,m9,_,rest++[((l4,w4),a4)],E1.trans E2,by lia,L,?_,?_,T8 hr ⟨VA,by rw[e4];lia,k4⟩⟩ rfl)
  ·rw[<-C6]
   show Led τ Bo [_,(c2,.list (List.map _ (_++[_]))),_] _
   rw[Q5];exact L
  ·rw[<-C6]
   exact⟨T8 (λ x hx=>E2 _ _ (hI.r x hx)) (fZ _ (.head _))⟩
  ·rw[B0,zr];rfl
 ·intro u FQ hQ;intros hQ τ hZ;intros hZ m6 Q0;intros Q0 Vk P4;intros P4 rest fT;delta fT E1 z6 L hI zr hr
  rw[D9]at zr z6
  refine X7 rfl (q c2 τ m6 Vk (b3++rest) FQ (by lia) (lw rest ?_) (E0.trans E1) hI L)
  clear L hI
  cases rest with
  |nil=>exact .inl rfl
  |cons x r=>cases r with
   |nil=>exact .inr ⟨x.1.1,x.1.2,x.2,rfl,(hr _ (.head _)).1,(hr _ (.head _)).2,(hr _ (.head _)).3⟩
   |cons x' r=>rw[H5,H5]at zr;lia
end
def PH.off(σ:PH)(a:Addr):PH:=λ b=>if b=a then none else σ b
theorem PH.AU(σ:PH)(a:Addr):PH.off σ a a=none:=F7 rfl
theorem PH.off_ne(σ:PH){a b:Addr}(h:b≠a):PH.off σ a b=σ b:=G0 h
theorem J9.frame{W:Wd}{n:Nat}{f:Value}{args:List PV}{σ:PH}{Q:PV->PH->Prop}{a:Addr}{o:PO}(ha:σ a=some o)(h:J9 W n f args (PH.off σ a) λ v CO=>CO a=none->Q v (CO.set a o)):J9 W n f args σ Q:=λ A s vs rm S rv=>by
 have S':SR W (PH.off σ a) s.heap:=⟨λ b p e=>S.obj b p (by
   by_cases c:b=a
   ·rw[c,PH.AU]at e;cases e
   ·rwa [PH.off_ne σ c]at e),S.keep,λ b n=>S.new b λ e=>n (by
   by_cases c:b=a
   ·rw[c];exact PH.AU ..
   ·rw[PH.off_ne σ c];exact e)⟩
 refine I7 (h A s vs rm S' rv) (λ v s' Uv=>?_) λ _ _ e=>e
 intros Uv x CO hZ;delta hZ hq r T P sm
 refine A0 (S.obj a o ha) λ ob hZ=>?_;delta hZ e1 e2
 have hZ:=P.bN a ob e1 (PH.AU ..);delta hZ p1 p2
 refine⟨x,CO.set a o,hq p2,r,⟨λ b p e=>?_,T.keep,λ b n=>?_⟩,⟨λ b p e n=>?_,λ b n=>?_⟩,sm⟩
 ·by_cases c:b=a
  ·rw[c,PH.J7]at e;cases e;rw[c];exact⟨ob,p1,e2.V7 (P.V7 S')⟩
  ·rw[PH.U0 _ _ c]at e;exact T.obj b p e
 ·by_cases c:b=a
  ·rw[c];exact S.new a (by rw[ha];exact Option.some_ne_none _)
  ·rw[PH.U0 _ _ c]at n;exact T.new b n
 ·have c:b≠a:=λ c=>by rw[c,ha]at n;cases n
  rw[PH.U0 _ _ c]
  exact P.bN b p e (by rw[PH.off_ne σ c];exact n)
 ·by_cases c:b=a
  ·rw[c,PH.J7];exact Option.some_ne_none _
  ·rw[PH.U0 _ _ c];exact P.ID b (by rw[PH.off_ne σ c];exact n)
theorem QS{ps qs:xK}(h:qs.map (·.1)=ps.map (·.1)):Q8 qs=Q8 ps∧bQ qs=bQ ps:=by
 have e1:∀(l k:List Str) (ps:xK),ps.foldl (λ l x=>x.1.2.foldl (kA k) l) l=(ps.map (·.1)).foldl (λ l x=>x.2.foldl (kA k) l) l:=λ l k ps=>by rw[List.foldl_map]
 have e2:∀(ns:List Str) (ps:xK),ps.map (λ x=>(⟨ns.idxOf x.1.1,x.1.2.map ns.idxOf⟩:Rl))=(ps.map (·.1)).map λ x=>⟨ns.idxOf x.1,x.2.map ns.idxOf⟩:=λ ns ps=>by rw[G2];rfl
 have e3:V3 [sS,sT] qs=V3 [sS,sT] ps:=by unfold V3;rw[e1,e1,h]
 have key:∀ps:xK,Q8 ps=(λ(ts:List Str) (rs:List (Str×List Str))=>(⟨MT ts,ts.length,⟨ts.length,[(MT ts).idxOf sS,0]⟩::rs.map λ x=>⟨(MT ts).idxOf x.1,x.2.map (MT ts).idxOf⟩⟩:Gr)) (V3 [sS,sT] ps) (ps.map (·.1)):=λ ps=>C7 (λ r=>(⟨MT (V3 [sS,sT] ps),(V3 [sS,sT] ps).length,⟨(V3 [sS,sT] ps).length,[(MT (V3 [sS,sT] ps)).idxOf sS,0]⟩::r⟩:Gr)) (e2 (MT (V3 [sS,sT] ps)) ps)
 constructor
 ·rw[key,key ps,e3,h]
 ·unfold bQ
  have e4:∀ps:xK,ps.foldl (λ l x=>eI l x.1.1) []=(ps.map (·.1)).foldl (λ l x=>eI l x.1) []:=λ ps=>by rw[List.foldl_map]
  rw[e4,e4 ps,h]
theorem KQ.same{ps qs:xK}(h:qs.map (·.1)=ps.map (·.1))(ok:KQ ps):KQ qs:=by
 have hZ:=QS h;delta hZ g1 g2
 have m:∀x∈qs,∃y,And (y∈ps) (y.1=x.1):=λ x hx=>D2.mp (h▸J2 (f:=(·.1)) hx)
 refine⟨?_,λ x hx=>?_,λ x hx=>?_,g2.trans ok.EQ,λ x hx=>?_,g1▸ok.wf⟩
 ·have:=C7 List.length h
  rw[A8,A8]at this
  exact this▸ok.len
 ·refine A0 (m x hx) λ y hZ=>?_;delta hZ hy e;rw[<-e];exact ok.parts y hy
 ·refine A0 (m x hx) λ y hZ=>?_;delta hZ hy e;rw[<-e];exact ok.left y hy
 ·refine A0 (m x hx) λ y hZ=>?_;delta hZ hy e;rw[<-e,g1];exact ok.mem y hy
section
variable{W:Wd}(P:dQ W)
include P
theorem Zo(hz:W.PJ.length<=63):KU W 60 (.ref 927) [.ref W.xN] (λ _=>none) λ v _=>v=.bool true:=by
 refine P.i8 Hb 78 rfl (ρ:=[.ref W.xN,.M7,.M7,.M7,.M7,.M7,.M7,.M7]) rfl (K1 (H7 (p1 rfl) (Sg (n:=58) P hz λ pa aK m L1=>K1 (H7 (p1 rfl) (Fk (n:=56) (t:=0) P L1 (K3 _) λ c2 IE m t ps W9 ht Dc E1 hI L2=>?_)))))
 have hZ:=Qc Dc;delta hZ ok nm oG
 refine Led.keep (L:=[(pa,SU m t)]) (X:=[(c2,ST ps)]) (R:=[]) L2 λ Ol E2 L3 fZ=>?_
 have h2:=fZ _ (.head _)
 have hI:=hI.ext E2
 clear fZ L2 L1 E2 E1
 have Xm:=L3.ext _ _ h2
 refine K1 (T5 (F9 (jF (P2 rfl ⟨_,qS (l:=ps) (f:=λ x=>.tup (Hf x)) Xm ok.len rfl,comp_map (λ pre acc B9=>∃qs:xK,acc=qs.map (λ x=>PV.tup (Hf x))∧qs.map (·.1)=pre.map (·.1)∧Ext W9 B9∧∀x∈qs,W9 x.2=none∧B9 x.2=some (.list (x.1.2.map .str))) ⟨[],rfl,rfl,.refl _,λ _ h=>(nomatch h)⟩ ?_ ?_⟩))))
 ·intro pre x post acc Y8 R hl hQ;intros hQ qs hZ;obtain rfl:=hZ.1;delta hZ hZ e1 E hq;intro hR
  have hx:=(P5 hl).2
  have x6:=(L3.ext.trans E) _ _ (hI.r x hx)
  refine⟨[.str x.1.1,.ref x.2],rfl,uS rfl (dK (F9 (P2 rfl (F9 (H7 (p1 rfl) (pG x6 (by rw[A8];exact A9 (ok.parts x hx) (by decide)) λ c hc=>M0 (hR (some (.tup (Hf (x.1,c)))) _ ?_ ⟨qs++[(x.1,c)],?_,?_,E.trans (Ext.new hc _),T8 (λ y hy=>⟨(hq y hy).1,Ext.new hc _ _ _ (hq y hy).2⟩) ⟨E.none hc,PH.J7 ..⟩⟩)))))))⟩
  ·exact((E.trans (Ext.new hc _)) _ _ Xm).trans Xm.symm
  ·rw[Q5]
  ·rw[Q5,Q5,e1]
 intro _ Y8 hQ;intros hQ qs hZ;obtain rfl:=hZ.1;delta hZ hZ e1 E hq;intro c3 CR
 have E':=E.trans (Ext.new CR (ST qs))
 have h3:=PH.J7 Y8 c3 (ST qs)
 have hq:∀x∈qs,W9 x.2=none∧(Y8.set c3 (ST qs)) x.2=some (.list (x.1.2.map .str)):=λ x hx=>⟨(hq x hx).1,Ext.new CR _ _ _ (hq x hx).2⟩
 have n3:=E.none CR
 generalize Y8.set c3 (ST qs)=bK at E' h3 hq ⊢
 have L4:=L3.grow E'
 have a7:=L4.get 0 rfl
 have Np:=L3.get 0 rfl
 have pn:=L3.new _ (.head _)
 have ne:∀{b},W9 b=none->b≠pa:=λ h e=>by rw[e,Np]at h;cases h
 have hP:Sv (PH.off bK pa) c3 qs:=⟨(PH.off_ne bK (ne n3)).trans h3,λ x hx=>(PH.off_ne bK (ne (hq x hx).1)).trans (hq x hx).2⟩
 have Eo:Ext Ol (PH.off bK pa):=λ b o e=>by
  have c:b≠pa:=λ c=>by rw[c]at e;exact Option.some_ne_none _ (e.symm.trans pn)
  rw[PH.off_ne bK c];exact L4.ext _ _ e
 refine M0 (J9.frame a7 (Fi (n:=56) P (ok.same e1) hP λ g UV E3 hG hn=>?_))
 have L5:Led UV _ [(pa,SU m t)] []:=(Led.start UV).alloc hn _
 generalize UV.set pa (SU m t)=cH at L5 ⊢
 rw[(QS e1).1]at hG
 have h2:=(Eo.trans E3) _ _ h2
 have hI:=hI.ext (Eo.trans E3)
 have w:=ok.wf
 clear L4 L3 hP hq h3 E' E e1 a7 Np pn ne Eo n3
 generalize Q8 ps=G at hG w nm oG
 refine K1 (T5 (F9 (P2 rfl (F9 (DO (H7 (I9 rfl (p1 rfl)) (pF (n:=58) (many:=2) P L5 (by lia) (by decide) λ d m6 eK hd L6=>P2 rfl ⟨decide ((d:Int)=1),rfl,M0 (Fo (n:=51) P w (hG.ext L6.ext) λ T A D N eW E7 hN hT=>K1 (H7 (p1 rfl) (Fn (n:=51) P w ((hG.ext L6.ext).ext E7) λ V B N' qB E8 Nw hV=>?_)))⟩)))))))
 obtain rfl:=hN.uniq Nw
 have Ut:=(L6.ext.trans E7).trans E8
 have hT:=hT.ext E8
 have hG:=hG.ext Ut
 have h2:=Ut _ _ h2
 have hI:=hI.ext Ut
 have au:=uI w hN
 have zl:=ok.len
 generalize G.sE N=S at hT hV au
 refine K1 (O6 (bP (F9 (dK (F9 (P2 rfl (F9 (K7 (xs:=[.str sS,.str (oS "$end")]) (Led.start qB) rfl λ a IF L9=>M0 (M0 λ b hb=>P2 rfl (gG (L9.alloc hb (.list [.tup [.str acc,.ref a]])) (PH.J7 ..) ((L9.alloc hb _).ext _ _ h2) ?_ λ c iU OM=>?_))))))))))
 ·rw[A8];show 1+_<=_;lia
 have Ax:=OM.ext
 have hO:Ng iU c ((acc,a,[sS,oS "$end"])::ps.map λ x=>(x.1.1,x.2,x.1.2)):=by
  refine⟨(OM.get 2 rfl).trans ?_,λ p hp=>?_⟩
  ·rw[I6,G2];rfl
  ·rcases F8.mp hp with rfl|hp
   ·exact OM.get 0 rfl
   ·refine A0 (D2.mp hp) λ x hZ=>?_;generalize hZ.1=hx;clear hp;clear hp;obtain rfl:=hZ.2;try clear hZ
    exact Ax _ _ (hI.r x hx)
 have oG:=oG a
 have hT:=hT.ext Ax
 have hG:=hG.ext Ax
 have hV:=hV.ext Ax
 clear OM L9 hb Ut h2 hI CR
 refine Z1 (T5 (F9 (J1 rfl (hT.ob.H2 "state_count" rfl rfl) rfl (Im (n:=58) P hT (M0 (aP (Z0 (λ v=>[.ref W.xN,.ref pa,.ref c2,.ref g,.ref T,.ref V,.ref c,v 7]) (l:=List.range S.length) (f:=C0) (λ _ _ B9=>Ext iU B9) rfl (fH (A9 au.len (by decide))) (.refl _) ?_ ?_)))))))
 ·intro pre k post u nZ R hl E hR
  have hZ:=P9 hl;delta hZ hZ hk
  exact iF (zL (Za (H7 (I9 rfl (I9 rfl (I9 rfl (p1 rfl)))) (KF (n:=55) P w nm (hG.ext E) (hV.ext E) (hT.ext E) au (hO.ext E) oG hk λ rA Aw=>⟨true,rfl,(λ h=>nomatch h),λ _=>O7 (s_end (hR .next _ _ trivial trivial (E.trans Aw) rfl))⟩))))
 ·intro u nZ E
  have hV:=hV.ext E
  have hT:=hT.ext E
  refine W3 (DO (P2 (V8 (D8 (D8 rfl (hV.ob.fld _)) (hV.ia.ob.fld _)) (len_list hV.ia.sl (k:=S.length) ?_)) (J1 rfl (hT.ob.H2 "state_count" rfl rfl) rfl (Im (n:=58) P hT ⟨true,C7 some (H3 rfl),rfl⟩))))
  rw[A8,A8,hV.ia.len]
end
end Mine.Internal
end
theorem PySem.Challenge.cw_nn0417_01_holds : PySem.Challenge.rw_nn0417_01.Holds :=
 Mine.Internal.Top.fin fun _ => Mine.Internal.Zo
