import PyProof.Rows.All
import Wide.All
import OpenK.AllK
import Wide.FinOn
import PySem.Challenge.RW_nn0417_01
section
set_option autoImplicit false
set_option maxRecDepth 100000
set_option linter.all false
set_option Elab.async false
set_option genSizeOf false
set_option genInjectivity false
set_option tactic.hygienic false
set_option bootstrap.genMatcherCode false
namespace Mine.Internal
@[elab_as_elim] theorem rg.{u} {α : Sort u} {a b : α} {motive : α → Prop} (h : a = b) (x : motive b) : motive a := h ▸ x
@[elab_as_elim] theorem rs.{u} {α : Sort u} {a b : α} {motive : α → Prop} (h : b = a) (x : motive b) : motive a := h ▸ x
inductive ee2 {α β : Type} (p : α → β → Prop) : Prop where
  | mk (x : α) (y : β) (h : p x y)
inductive ee3 {α β γ : Type} (p : α → β → γ → Prop) : Prop where
  | mk (x : α) (y : β) (z : γ) (h : p x y z)
inductive ee4 {α β γ δ : Type} (p : α → β → γ → δ → Prop) : Prop where
  | mk (x : α) (y : β) (z : γ) (w : δ) (h : p x y z w)
inductive A2 (a b : Prop) : Prop where
  | mk (h1 : a) (h2 : b)
inductive A3 (a b c : Prop) : Prop where
  | mk (h1 : a) (h2 : b) (h3 : c)
inductive A4 (a b c d : Prop) : Prop where
  | mk (h1 : a) (h2 : b) (h3 : c) (h4 : d)
inductive A5 (a b c d e : Prop) : Prop where
  | mk (h1 : a) (h2 : b) (h3 : c) (h4 : d) (h5 : e)
inductive A6 (a b c d e f : Prop) : Prop where
  | mk (h1 : a) (h2 : b) (h3 : c) (h4 : d) (h5 : e) (h6 : f)
inductive A7 (a b c d e f g : Prop) : Prop where
  | mk (h1 : a) (h2 : b) (h3 : c) (h4 : d) (h5 : e) (h6 : f) (h7 : g)
theorem ee2.e {α β : Type} {p : α → β → Prop} {c : Prop} (h : ee2 p) (k : ∀ x y, p x y → c) : c := ee2.casesOn h k
theorem ee3.e {α β γ : Type} {p : α → β → γ → Prop} {c : Prop} (h : ee3 p) (k : ∀ x y z, p x y z → c) : c := ee3.casesOn h k
theorem ee4.e {α β γ δ : Type} {p : α → β → γ → δ → Prop} {c : Prop} (h : ee4 p) (k : ∀ x y z w, p x y z w → c) : c := ee4.casesOn h k
section
open Lean
def nd (k : Name) (a : Array Syntax) : Syntax := .node .none k a
def nu : Array Syntax → Syntax := nd `null
def at_ (s : String) : Syntax := .atom .none s
def ap (f : Name) (a : Array Syntax) : Syntax := nd ``Parser.Term.app #[.ident .none f.toString.toRawSubstring f [], nu a]
def sq (x : Syntax) : Array Syntax := #[at_ "", nd ``Parser.Tactic.tacticSeq #[nd ``Parser.Tactic.tacticSeq1Indented #[nu #[x]]]]
def ch : Nat → Syntax → List Syntax
  | n + 1, t => if t.getKind == `«term_∧_» then t[0] :: ch n t[2] else [t]
  | 0, t => [t]
end
end Mine.Internal
open Lean Mine.Internal in
local macro_rules (kind := Lean.Parser.Command.declaration)
  | t => do
    let some (.original ..) := t.getHeadInfo? | Macro.throwUnsupported
    let k := t[1].getKind
    if k == ``Parser.Command.definition || k == ``Parser.Command.abbrev then return t.setArg 0 (t[0].setArg 4 (nu #[nd ``Parser.Command.noncomputable #[at_ "noncomputable"]])) |>.setHeadInfo .none
    return if k == ``Parser.Command.structure || k == ``Parser.Command.inductive then t.rewriteBottomUp (·.setInfo .none) else t.setHeadInfo .none
open Lean Mine.Internal in
local macro_rules (kind := Lean.Parser.Tactic.rwSeq)
  | t => do
    let r := t[2][1][0]
    if r.isMissing || !t[3].isNone then Macro.throwUnsupported
    let s (a : Array Syntax) : Syntax := t.setArg 2 (t[2].setArg 1 (nu a))
    return nu #[nd ``Parser.Tactic.first #[at_ "", nu #[nu <| sq <| nd ``Parser.Tactic.withReducible <| sq <| nd ``Parser.Tactic.refine #[at_ "", ap (if r[0].isNone then ``rg else ``rs) #[nd ``Parser.Term.app #[r[1], nu #[nd ``Parser.Term.ellipsis #[at_ ""]]], nd ``Parser.Term.syntheticHole #[at_ "?", at_ "_"]]], nu <| sq <| (s #[r]).setKind ``Parser.Tactic.rewriteSeq]], s (t[2][1].getArgs.extract 2 1000)]
open Lean Mine.Internal in
local macro_rules (kind := «term_∧_»)
  | t => let l := ch 6 t; if l.length < 2 then Macro.throwUnsupported else return ap (`Mine.Internal ++ .mkSimple s!"A{l.length}") l.toArray
open Lean Mine.Internal in
local macro_rules (kind := «term∃_,_»)
  | t => do
    let b := t[1][0]
    let xs := b[0].getArgs
    let n := min 4 xs.size
    if n < 2 || !b[1].isNone then Macro.throwUnsupported
    return ap (`Mine.Internal ++ .mkSimple s!"ee{n}") #[nd ``Parser.Term.fun #[at_ "fun", nd ``Parser.Term.basicFun #[nu ((xs.extract 0 n).map (·[0])), nu #[], at_ "=>", if xs.size > n then t.setArg 1 (t[1].setArg 0 (b.setArg 0 (nu (xs.extract n 100)))) else t[3]]]]
open Lean Mine.Internal in
local macro_rules (kind := Lean.Parser.Tactic.delta)
  | t => do
    let a := t[1].getArgs
    let h := a[0]!
    if !t[2].isNone || a.size < 2 then Macro.throwUnsupported
    let mut r := #[]
    for i in [1:a.size] do
      if a[i]!.getId != h.getId then r := (if r.isEmpty then r else r.push (at_ ",")).push (nd ``Parser.Tactic.generalizeArg #[nu #[], nd ``Parser.Term.proj #[h, at_ ".", .node .none fieldIdxKind #[at_ s!"{i}"]], at_ "=", a[i]!])
    return nu #[nd ``Parser.Tactic.generalize #[at_ "generalize", nu r, nu #[]], ← `(tactic| try clear $(⟨h⟩))]
open Lean Mine.Internal in
local macro_rules (kind := Lean.Parser.Tactic.intros)
  | t => do
    let a := t[1].getArgs
    if a.size < 3 then Macro.throwUnsupported
    let h : Ident := ⟨a[0]!⟩
    let f := mkIdent (if a.size == 3 then ``Exists.elim else `Mine.Internal ++ .mkSimple s!"ee{a.size - 2}" ++ `e)
    return nu #[← `(tactic| refine $f $h ?_), ← `(tactic| try clear $h), nd ``Parser.Tactic.intro #[at_ "intro", nu (a.extract 1 10)]]
open PySem PySem.W PySem.W.Fast PyProof.Rows PySem.Calls
namespace Mine.Internal
def A0:=@Exists.elim
def A8:=@List.length_map
def A9:=@Nat.le_trans
def B0:=@List.length_append
def B5:=@List.mem_of_getElem?
def B6:=@PySem.wpAny_bind
def C1:=@List.map_append
def C2:=@List.getD_eq_getElem?_getD
def C3:=@Nat.le_of_ble_eq_true
def C4:=@List.getElem?_eq_getElem
def C5:=@Bool.false_ne_true
def C6:=@List.append_assoc
def C7:=@congrArg
def C9:=@List.append_nil
def D0:=@of_decide_eq_true
def D1:=@Nat.lt_of_lt_of_le
def D2:=@List.mem_map
def D3:=@List.getElem?_eq_some_iff
def D4:=@PySem.wpAny_pure
def D5:=@List.mem_singleton
def D7:=@Nat.le_refl
def D9:=@List.length_range
def F0:=@Bool.and_eq_true_iff
def F7:=@if_pos
def F8:=@List.mem_cons
def G0:=@if_neg
def G2:=@List.map_map
def G3:=@List.all_eq_true
def G4:=@List.mem_append_right
def G6:=@Int.natCast_nonneg
def G7:=@List.filter_append
def G8:=@Option.some.inj
def G9:=@List.mem_append
def H0:=@List.mem_append_left
def H1:=@List.size_toArray
def H3:=@decide_eq_true
def H4:=@List.length_filter_le
def H5:=@List.length_cons
def H8:=@Nat.lt_of_le_of_lt
def H9:=@List.getElem?_map
def I1:=@List.lookup_cons
def I4:=@List.getElem?_append_left
def I6:=@List.map_cons
def I7:=@PySem.wpAny_mono
def J0:=@List.foldl_cons
def J2:=@List.mem_map_of_mem
def J3:=@List.filter_cons_of_pos
def J4:=@List.filter_cons_of_neg
def J5:=@List.mem_filter
def J6:=@Nat.le_add_right
def J8:=@decide_eq_false
def K0:=@PySem.sizeLine_eq
def K2:=@PySem.wpAny_holding
def K3:=@Nat.zero_le
def K5:=@Nat.lt_succ_self
def K6:=@of_decide_eq_false
def K8:=@List.length_replicate
def K9:=@List.foldl_append
def M8:=@Nat.le_of_lt
def N0:=@Bool.or_eq_true_iff
def N1:=@List.mem_range
def N2:=@List.getElem?_append_right
def N6:=@PySem.Heap.get?_push_size
def N7:=@List.nodup_cons
def O0:=@beq_eq_false_iff_ne
def O1:=@Nat.succ_le_succ
def O2:=@beq_self_eq_true
def O3:=@Option.map_eq_some_iff
def O8:=@List.nodup_append
def P0:=@List.length_set
def P1:=@List.map_congr_left
def P6:=@List.mem_flatMap
def P7:=@List.cons_append
def P8:=@decide_eq_true_eq
def Q2:=@List.flatMap_singleton
def Q4:=@PySem.Heap.get?_push_of_some
def Q7:=@List.flatMap_append
def R3:=@List.filter_eq_nil_iff
def R7:=@PySem.Str.length_append
def S0:=@Nat.add_le_add
def T7:=@Int.ofNat_lt
def T9:=@PySem.wpAny_standAt
def U6:=@Nat.ne_of_lt
def U7:=@List.length_drop
def V9:=@PySem.F.slot_dict_keyiterator_next
def W0:=@Nat.add_sub_cancel_left
def W1:=@List.filter_cons
def W2:=@Bool.and_eq_true
def X0:=@Nat.le_of_eq
def X4:=@List.pairwise_map
def X6:=@List.nil_append
def X9:=@Nat.eq_of_beq_eq_true
def Y0:=@List.length_singleton
def Y2:=@List.length_take
def Y4:=@Nat.zero_add
def Y5:=@Nat.lt_succ_iff_lt_or_eq
def Y6:=@List.idxOf_lt_length_iff
def Y8:=@List.forall_mem_cons
def Z5:=@Nat.or_lt_two_pow
def Z6:=@Nat.le_succ_of_le
def Z7:=@List.flatMap_cons
def Z8:=@Nat.two_pow_pos
def Z9:=@Nat.not_lt_zero
def aA:=@Nat.le_add_left
def aF:=@Nat.add_comm
def aG:=@List.range_succ_eq_map
def aK:=@PySem.wpAny_newObj_type
def aU:=@List.mem_or_eq_of_mem_set
def aY:=@List.getElem?_set
def aZ:=@List.getElem?_modify
def bA:=@Int.toNat_natCast
def bG:=@of_eq_true
def bH:=@bne_iff_ne
def bJ:=@List.eq_of_mem_replicate
def bK:=@List.Pairwise.imp_of_mem
def bW:=@Nat.add_le_add_left
def bX:=@List.getElem?_range
def bY:=@List.filter_flatMap
def bZ:=@Array.length_toList
def cB:=@List.take_length
def cC:=@Int.eq_ofNat_of_zero_le
def cO:=@Nat.le_succ
def cS:=@List.all_map
def cT:=@Bool.false_eq_true
def cX:=@PySem.Heap.SameBut.update
def cY:=@PySem.wpAny_call_entry
def dF:=@List.all_cons
def dG:=@List.getElem?_toArray
def dI:=@PySem.wpAny_typeNameOfWhole_keyiter
def dJ:=@Nat.lt_succ_of_lt
def dK:=@Bool.not_eq_true'
def eO:=@decide_eq_decide
def eP:=@Nat.succ_pos
def eQ:=@List.not_mem_nil
def eS:=@List.map_flatMap
def eU:=@Option.isNone_iff_eq_none
def eV:=@List.getElem?_eq_none_iff
def eW:=@List.drop_eq_getElem_cons
def fB:=@Nat.mul_le_mul_left
def fC:=@List.filter_eq_self
def fX:=@Option.map_some
def fY:=@Nat.min_eq_left
def fZ:=@Bool.eq_iff_iff
def gC:=@List.zip_cons_cons
def gD:=@List.set_cons_succ
def gJ:=@Option.bind_eq_some_iff
def gK:=@Nat.lt_add_of_pos_right
def gL:=@List.map_id
def gM:=@List.getElem?_replicate
def gN:=@List.getElem?_cons_succ
def gY:=@PySem.wpAny_typeNameOf_keyiter
def gZ:=@if_false
def hJ:=@PySem.F.slot_str_split
def hM:=@Ne.symm
def hU:=@Nat.sub_self
def hX:=@Nat.lt_succ_of_le
def hY:=@Nat.le_of_succ_le
def iA:=@List.take_of_length_le
def iB:=@List.map_set
def iC:=@List.ext_getElem?
def iU:=@PySem.tupleKind_room_in1
def iV:=@PySem.call_meets
def jC:=@PySem.F.slot_dict_get
def jD:=@Nat.sub_eq_zero_of_le
def jE:=@List.getElem?_eq_none
def jF:=@List.contains_iff_mem
def jG:=@List.Perm.append_left
def jM:=@beq_iff_eq
def jN:=@Nat.not_lt
def jO:=@Nat.le_of_not_lt
def jP:=@List.any_eq_true
def kD:=@Nat.add_assoc
def kG:=@PySem.wpAny_truthy_bool
def kH:=@Prod.ext
def kI:=@Nat.pow_lt_pow_right
def kJ:=@List.mem_of_mem_drop
def kK:=@List.getElem?_zipIdx
def kL:=@List.eq_nil_of_length_eq_zero
def kM:=@PySem.Heap.lt_size
def mU:=@PySem.mem_of_lookup
def mV:=@List.map_eq_nil_iff
def nN:=@Nat.lt_trans
def nO:=@List.map_nil
def nP:=@List.any_map
def nV:=@Nat.testBit_or
def nW:=@List.map_replicate
def nX:=@List.getElem_idxOf
def nY:=@List.drop_left
def nZ:=@Int.fdiv_eq_ediv_of_nonneg
def qB:=@Array.getElem?_eq_getElem
def qF:=@Prod.mk.inj
def qG:=@Nat.lt_trichotomy
def qH:=@Int.ofNat_eq_zero
def qI:=@Function.comp_def
def qV:=@PySem.F.args_str_split_2
def qW:=@Option.isSome_iff_exists
def qX:=@Nat.succ_add_eq_add_succ
def qY:=@List.sum_cons
def qZ:=@List.sublist_append_left
def rA:=@Int.ofNat.inj
def sH:=@PySem.F.entry_str_split
def sI:=@Nat.exists_eq_add_of_le
def sJ:=@List.prefix_refl
def sK:=@List.getElem_mem
def sL:=@List.flatMap_eq_nil_iff
def sM:=@List.flatMap_def
def sN:=@List.cons_ne_nil
section
inductive PV where
 |none|bool (b:Bool)|int (i:Int)|str (s:Str)|tup (xs:List PV)|ref (a:Addr)|rZ (lo hi:Int)|M7
inductive PK where
 |int (i:Int)|str (s:Str)|bN (l:List Int)
 deriving DecidableEq
def PK.pv:PK->PV
 |.int i=>.int i
 |.str s=>.str s
 |.bN l=>.tup (l.map .int)
inductive PO where
 |list (xs:List PV)
 |dict (es:List (PK×PV)) (ep:Nat)
 |inst (C dx:Addr)
 |attrs (C:Addr) (fs:List (String×PV))
abbrev PH:=Addr->Option PO
def PH.set(σ:PH)(a:Addr)(o:PO):PH:=λ b=>if b=a then some o else σ b
theorem PH.J7(σ:PH)(a:Addr)(o:PO):(σ.set a o) a=some o:=F7 rfl
theorem PH.U0(σ:PH){a b:Addr}(o:PO)(h:b≠a):(σ.set a o) b=σ b:=G0 h
def cV(o:Obj):Bool:=match o.data with
 |.seq _ _=>o.cls==.type "tuple"
 |.fields _=>o.cls==.type "range"
 |_=>false
def nT(h h':Heap):Prop:=∀a o,h.get? a=some o->cV o=true->h'.get? a=some o
theorem nT.trans{h h' Dk:Heap}(x:nT h h')(y:nT h' Dk):nT h Dk:=λ a o e i=>y a o (x a o e i) i
theorem nT.keeps{h h':Heap}(k:∀b o,h.get? b=some o->h'.get? b=some o):nT h h':=λ a o e _=>k a o e
theorem nT.sameBut{h h':Heap}{a:Addr}{o:Obj}(s:Heap.SameBut a h h')(e:h.get? a=some o)(n:cV o=false):nT h h':=λ b p q i=>by
 have:b≠a:=by clear s;rintro rfl;rw[e]at q;cases q;rw[n]at i;cases i
 exact(s.2 b this).trans q
mutual
inductive VR(h:Heap):PV->Value->Prop
 |none:VR h .none .none
 |bool (b:Bool):VR h (.bool b) (.bool b)
 |int (i:Int) (t:Tok):VR h (.int i) (.int i t)
 |str (s:Str) (t:Tok):s.length<=sizeLine->VR h (.str s) (.str s t)
 |tup {xs:List PV} {a:Addr} {vs:List Value}:h.IsTuple a vs.toArray->bP h xs vs->xs.length<=2^25->VR h (.tup xs) (.ref a)
 |ref (a:Addr):VR h (.ref a) (.ref a)
 |rZ {lo hi:Int} {a:Addr} {t u v:Tok}:IsRange h a lo hi 1 t u v->VR h (.rZ lo hi) (.ref a)
inductive bP(h:Heap):List PV->List Value->Prop
 |nil:bP h [] []
 |cons {x:PV} {v:Value} {xs:List PV} {vs:List Value}:VR h x v->bP h xs vs->bP h (x::xs) (v::vs)
end
theorem IsTuple.V7{h h':Heap}{a:Addr}{is:Array Value}(m:nT h h')(x:h.IsTuple a is):h'.IsTuple a is:=
 x.imp λ o p=>⟨m a o p.1 (p.2.2.elim λ n d=>by simp[cV,p.2.1,d]),p.2⟩
theorem VR.V7{h h':Heap}(m:nT h h'){x:PV}{v:Value}(r:VR h x v):VR h' x v:=
 @VR.rec h (λ x v _=>VR h' x v) (λ x v _=>bP h' x v) .none .bool .int .str (λ e _ b r=>.tup (IsTuple.V7 m e) r b) .ref (λ e=>.rZ (m _ _ e rfl)) .nil (λ _ _ a b=>.cons a b) x v r
theorem bP.V7{h h':Heap}(m:nT h h'){x:List PV}{v:List Value}(r:bP h x v):bP h' x v:=
 @bP.rec h (λ x v _=>VR h' x v) (λ x v _=>bP h' x v) .none .bool .int .str (λ e _ b r=>.tup (IsTuple.V7 m e) r b) .ref (λ e=>.rZ (m _ _ e rfl)) .nil (λ _ _ a b=>.cons a b) x v r
theorem bP.length{h:Heap}{xs:List PV}{vs:List Value}(r:bP h xs vs):vs.length=xs.length:=by
 induction xs generalizing vs with
 |nil=>cases r;rfl
 |cons x xs ih=>cases r with|cons a b=>simp[ih b]
theorem bP.get{h:Heap}{xs:List PV}{vs:List Value}(r:bP h xs vs){i:Nat}{x:PV}(e:xs[i]? =some x):∃v,vs[i]? =some v∧VR h x v:=by
 induction xs generalizing vs i with
 |nil=>simp at e
 |cons y ys ih=>
  cases r with
  |cons a b=>
   cases i with
   |zero=>simp at e;clear ih;subst e;exact⟨_,rfl,a⟩
   |succ i=>simp at e;simpa using ih b e
theorem bP.append{h:Heap}{xs ys:List PV}{vs us:List Value}(r:bP h xs vs)(q:bP h ys us):bP h (xs++ys) (vs++us):=by
 induction xs generalizing vs with
 |nil=>cases r;exact q
 |cons x xs ih=>cases r with|cons a b=>exact .cons a (ih b)
theorem bP.take{h:Heap}{xs:List PV}{vs:List Value}(r:bP h xs vs)(n:Nat):bP h (xs.take n) (vs.take n):=by
 induction xs generalizing vs n with
 |nil=>cases r;simp;exact .nil
 |cons x xs ih=>cases r with|cons a b=>cases n with|zero=>exact .nil|succ n=>exact .cons a (ih b n)
theorem bP.drop{h:Heap}{xs:List PV}{vs:List Value}(r:bP h xs vs)(n:Nat):bP h (xs.drop n) (vs.drop n):=by
 induction xs generalizing vs n with
 |nil=>cases r;simp;exact .nil
 |cons x xs ih=>cases r with|cons a b=>cases n with|zero=>exact .cons a b|succ n=>exact ih b n
theorem bP.set{h:Heap}{xs:List PV}{vs:List Value}(r:bP h xs vs)(n:Nat){x:PV}{v:Value}(q:VR h x v):bP h (xs.set n x) (vs.set n v):=by
 induction xs generalizing vs n with
 |nil=>cases r;exact .nil
 |cons y ys ih=>cases r with|cons a b=>cases n with|zero=>exact .cons q b|succ n=>exact .cons a (ih b n)
structure Wd where
 prog:Program
 w:World
 K:Frag
 h₀:Heap
 mg:Str->Option Value
 mb:Str->Option Value
 xO:Addr
 PL:List Int
abbrev Wd.M(W:Wd):Model:=model W.prog W.w
abbrev Wd.ik(W:Wd):KeyKind W.prog W.w Int:=intKind W.prog W.w
abbrev Wd.sk(W:Wd):KeyKind W.prog W.w Str:=strKind W.prog W.w
abbrev Wd.tk(W:Wd):HeapKind W.prog W.w (List Int):=tupleKind W.ik
inductive KV{K:Type}(f:K->PK)(h:Heap):List (PK×PV)->List (K×Value)->Prop
 |nil:KV f h [] []
 |cons {k:K} {x:PV} {v:Value} {r:List (PK×PV)} {q:List (K×Value)}:VR h x v->KV f h r q->KV f h ((f k,x)::r) ((k,v)::q)
inductive KT(W:Wd)(h:Heap):List (PK×PV)->List (List Int×Addr×Value)->Prop
 |nil:KT W h [] []
 |cons {k:List Int} {x:PV} {a:Addr} {v:Value} {r:List (PK×PV)} {q:List (List Int×Addr×Value)}:IsTupleKey W.ik h k a∧k.length<=2^25->VR h x v->KT W h r q->KT W h ((.bN k,x)::r) ((k,a,v)::q)
inductive DR(W:Wd)(h:Heap)(n:Nat):List (PK×PV)->Obj->Prop
 |i {es:List (PK×PV)} {ds:Array DictEntry} {kvs:List (Int×Value)}:KV .int h es kvs->KeysOf W.ik ds->Pairs W.ik ds.toList kvs->(kvs.map (·.1)).Nodup->DR W h n es ⟨.type "dict",none,.dict ds n,#[]⟩
 |s {es:List (PK×PV)} {ds:Array DictEntry} {kvs:List (Str×Value)}:KV .str h es kvs->KeysOf W.sk ds->Pairs W.sk ds.toList kvs->(kvs.map (·.1)).Nodup->DR W h n es ⟨.type "dict",none,.dict ds n,#[]⟩
 |t {es:List (PK×PV)} {ds:Array DictEntry} {xs:List (List Int×Addr×Value)}:KT W h es xs->ds.toList=xs.map (entryOfKey W.tk)->(xs.map (·.1)).Nodup->DR W h n es ⟨.type "dict",none,.dict ds n,#[]⟩
structure xM(K:Frag)(C:Addr)(name:Str):Prop where
 ga:findIn K (.ref C) "__getattribute__"=some (some (.builtin "object.__getattribute__"))
 sa:findIn K (.ref C) "__setattr__"=some (some (.builtin "object.__setattr__"))
 no:findIn K (.ref C) name=some none
 dict:hasDictIn K C=true
 over:plainOver K C=true
inductive aJ(W:Wd)(h:Heap)(C:Addr):List (String×PV)->List DictEntry->Prop
 |nil:aJ W h C [] []
 |cons {f:String} {x:PV} {e:DictEntry} {fs:List (String×PV)} {es:List DictEntry}:(∃t,e.key=.str (Str.ofString f) t)->VR h x e.val->xM W.K C (Str.ofString f)->aJ W h C fs es->aJ W h C ((f,x)::fs) (e::es)
inductive OR(W:Wd)(h:Heap):PO->Obj->Prop
 |list {xs:List PV} {vs:List Value} {n:Nat}:bP h xs vs->xs.length<=2^25->OR W h (.list xs) ⟨.type "list",none,.seq vs.toArray n,#[]⟩
 |dict {es:List (PK×PV)} {n:Nat} {ob:Obj}:DR W h n es ob->OR W h (.dict es n) ob
 |inst {C dx:Addr}:OR W h (.inst C dx) ⟨.ref C,some dx,.plain,#[]⟩
 |attrs {C:Addr} {fs:List (String×PV)} {es:List DictEntry} {n:Nat}:aJ W h C fs es->OR W h (.attrs C fs) ⟨.type "dict",none,.dict es.toArray n,#[]⟩
theorem KV.V7{K:Type}{f:K->PK}{h h':Heap}(m:nT h h'){es:List (PK×PV)}{q:List (K×Value)}(x:KV f h es q):KV f h' es q:=by
 induction x with
 |nil=>exact .nil
 |cons a _ ih=>exact .cons (a.V7 m) ih
theorem IsTupleKey.V7{W:Wd}{h h':Heap}(m:nT h h'){l:List Int}{a:Addr}(e:IsTupleKey W.ik h l a):IsTupleKey W.ik h' l a:=by
 intros e o hZ;intros hZ it Q0;intros Q0 n P4;generalize P4.1=a;generalize P4.2=sE;generalize sE.1=b;generalize sE.2=nS;delta nS c d;try clear sE;try clear P4;exact⟨o,it,n,m _ _ a (by simp[cV,b,c]),b,c,d⟩
theorem KT.V7{W:Wd}{h h':Heap}(m:nT h h'){es:List (PK×PV)}{q:List (List Int×Addr×Value)}(x:KT W h es q):KT W h' es q:=by
 induction x with
 |nil=>exact .nil
 |cons a b _ ih=>exact .cons ⟨IsTupleKey.V7 m a.1,a.2⟩ (b.V7 m) ih
theorem DR.V7{W:Wd}{h h':Heap}{n:Nat}(m:nT h h'){es:List (PK×PV)}{ob:Obj}(x:DR W h n es ob):DR W h' n es ob:=by
 cases x with
 |i a b c d=>exact .i (a.V7 m) b c d
 |s a b c d=>exact .s (a.V7 m) b c d
 |t a b c=>exact .t (a.V7 m) b c
theorem aJ.V7{W:Wd}{h h':Heap}(m:nT h h'){C:Addr}{fs:List (String×PV)}{es:List DictEntry}(x:aJ W h C fs es):aJ W h' C fs es:=by
 induction x with
 |nil=>exact .nil
 |cons a b c _ ih=>exact .cons a (b.V7 m) c ih
theorem OR.V7{W:Wd}{h h':Heap}(m:nT h h'){o:PO}{ob:Obj}(x:OR W h o ob):OR W h' o ob:=by
 cases x with
 |list r b=>exact .list (r.V7 m) b
 |dict r=>exact .dict (r.V7 m)
 |inst=>exact .inst
 |attrs r=>exact .attrs (r.V7 m)
theorem OR.MV{W:Wd}{h:Heap}{o:PO}{ob:Obj}(x:OR W h o ob):cV ob=false:=by
 cases x with
 |dict r=>cases r<;>rfl
 |_=>rfl
theorem OR.WY{W:Wd}{h:Heap}{o:PO}{ob:Obj}(x:OR W h o ob):ob.isFreed=false:=by
 cases x with
 |dict r=>cases r<;>rfl
 |_=>rfl
structure SR(W:Wd)(σ:PH)(h:Heap):Prop where
 obj:∀a o,σ a=some o->∃ob,h.get? a=some ob∧OR W h o ob
 keep:∀b o,W.h₀.get? b=some o->h.get? b=some o
 new:∀a,σ a≠none->W.h₀.get? a=none
structure kC(σ:PH)(h:Heap)(B9:PH)(h':Heap):Prop where
 bO:∀b o,h.get? b=some o->σ b=none->h'.get? b=some o∧B9 b=none
 IE:∀b,σ b≠none->B9 b≠none
theorem kC.refl(σ:PH)(h:Heap):kC σ h σ h:=⟨λ _ _ e n=>⟨e,n⟩,λ _ e=>e⟩
theorem kC.trans{σ B4 H6:PH}{h mH iO:Heap}(x:kC σ h B4 mH)(y:kC B4 mH H6 iO):kC σ h H6 iO:=
 ⟨λ b o e n=>let⟨e1,n1⟩:=x.bO b o e n;y.bO b o e1 n1,λ b e=>y.IE b (x.IE b e)⟩
theorem kC.V7{W:Wd}{σ B9:PH}{h h':Heap}(S:SR W σ h)(x:kC σ h B9 h'):nT h h':=λ a o e i=>by
 cases q:σ a with
 |none=>exact(x.bO a o e q).1
 |some po=>
  refine A0 (S.obj a po q) λ ob hZ=>?_;delta hZ e' r
  rw[e]at e';cases e'
  rw[r.MV]at i;cases i
theorem kC.keeps{σ:PH}{h h':Heap}(k:∀b o,h.get? b=some o->h'.get? b=some o):kC σ h σ h':=⟨λ b o e n=>⟨k b o e,n⟩,λ _ e=>e⟩
theorem SR.keeps{W:Wd}{σ:PH}{h h':Heap}(S:SR W σ h)(k:∀b o,h.get? b=some o->h'.get? b=some o):SR W σ h':=
 ⟨λ a o e=>let⟨ob,e1,r⟩:=S.obj a o e;⟨ob,k _ _ e1,r.V7 (.keeps k)⟩,λ b o e=>k b o (S.keep b o e),S.new⟩
theorem Q6(h:Heap)(o:Obj):∀b p,h.get? b=some p->(h.push o).get? b=some p:=λ _ _ e=>Q4 _ e
theorem W7{h:Heap}{a:Addr}(q:h.objs.size<=a):h.get? a=none:=by
 cases e:h.get? a with
 |none=>rfl
 |some o=>exact absurd (kM e) (jN.mpr q)
theorem SR.fresh{W:Wd}{σ:PH}{h:Heap}(S:SR W σ h){a:Addr}(q:h.get? a=none):σ a=none:=by
 cases e:σ a with
 |none=>rfl
 |some o=>refine A0 (S.obj a o e) λ ob hZ=>?_;delta hZ e';rw[q]at e';cases e'
theorem SR.fL{W:Wd}{σ:PH}{h:Heap}(S:SR W σ h){a:Addr}(q:h.get? a=none):W.h₀.get? a=none:=by
 cases e:W.h₀.get? a with
 |none=>rfl
 |some o=>rw[S.keep a o e]at q;cases q
theorem SR.alloc{W:Wd}{σ:PH}{h h':Heap}{a:Addr}{o:PO}{ob:Obj}(S:SR W σ h)(q:h.get? a=none)(k:∀b p,h.get? b=some p->h'.get? b=some p)
  (e:h'.get? a=some ob)(r:OR W h' o ob):SR W (σ.set a o) h'∧kC σ h (σ.set a o) h'∧σ a=none:=by
 refine⟨⟨λ b po e'=>?_,λ b p e'=>k _ _ (S.keep b p e'),λ b n=>?_⟩,⟨λ b p e' n=>⟨k _ _ e',?_⟩,λ b n=>?_⟩,S.fresh q⟩
 ·by_cases hb:b=a
  ·clear q;subst hb;rw[PH.J7]at e';cases e';exact⟨ob,e,r⟩
  ·rw[PH.U0 _ _ hb]at e';exact(S.keeps k).obj b po e'
 ·by_cases hb:b=a
  ·clear n;subst hb;exact S.fL q
  ·rw[PH.U0 _ _ hb]at n;exact S.new b n
 ·have:b≠a:=by clear e n;rintro rfl;rw[q]at e';cases e'
  rw[PH.U0 _ _ this];exact n
 ·by_cases hb:b=a
  ·clear n;subst hb;rw[PH.J7];simp
  ·rw[PH.U0 _ _ hb];exact n
theorem SR.upd{W:Wd}{σ:PH}{h h':Heap}{a:Addr}{o o':PO}{Vu:Obj}(S:SR W σ h)(q:σ a=some o)(k:Heap.SameBut a h h')
  (e:h'.get? a=some Vu)(r:OR W h o' Vu):SR W (σ.set a o') h'∧kC σ h (σ.set a o') h':=by
 refine A0 (S.obj a o q) λ ob hZ=>?_;delta hZ ea ra
 have m:nT h h':=nT.sameBut k ea ra.MV
 refine⟨⟨λ b po e'=>?_,λ b p e'=>?_,λ b n=>?_⟩,⟨λ b p e' n=>?_,λ b n=>?_⟩⟩
 ·by_cases hb:b=a
  ·clear ea k q;subst hb;rw[PH.J7]at e';cases e';exact⟨Vu,e,r.V7 m⟩
  ·rw[PH.U0 _ _ hb]at e'
   refine A0 (S.obj b po e') λ o2 hZ=>?_;delta hZ e2 r2
   exact⟨o2,(k.2 b hb).trans e2,r2.V7 m⟩
 ·have:b≠a:=by clear ea k;rintro rfl;rw[S.new b (by rw[q];simp)]at e';cases e'
  exact(k.2 b this).trans (S.keep b p e')
 ·by_cases hb:b=a
  ·clear ea k;subst hb;exact S.new b (by rw[q];simp)
  ·rw[PH.U0 _ _ hb]at n;exact S.new b n
 ·have:b≠a:=by clear ea k e;rintro rfl;rw[q]at n;cases n
  exact⟨(k.2 b this).trans e',by rw[PH.U0 _ _ this];exact n⟩
 ·by_cases hb:b=a
  ·clear ea k;subst hb;rw[PH.J7];simp
  ·rw[PH.U0 _ _ hb];exact n
def Sm(s s':Shared):Prop:=∃h tk,s'={s with heap:=h,toks:=tk}
theorem Sm.refl(s:Shared):Sm s s:=⟨s.heap,s.toks,rfl⟩
theorem Sm.trans{s s' Zf:Shared}(x:Sm s s')(y:Sm s' Zf):Sm s Zf:=by intros x h t hZ;obtain rfl:=hZ;intros y h' t' hZ;obtain rfl:=hZ;exact⟨h',t',rfl⟩
theorem Sm.mk'(s:Shared)(h:Heap)(t:Tok):Sm s {s with heap:=h,toks:=t}:=⟨h,t,rfl⟩
structure Rm(n:Nat)(A:Around):Prop where
 hd:A.handled=none
 dp:A.depth+8*n<=850
 un:A.units+40*n<=9000
 fr:∃e o,A.frames=some (e::o)∧e.globals=mainGlobals∧e.builtins=builtinsNs∧e.scope.isGenerator=false∧e.scope.isCoroutine=false
structure Nh(n:Nat)(A:Around):Prop where
 hd:A.handled=none
 dp:A.depth+8*n<=850
 un:A.units+40*n<=9000
 fr:∃l,A.frames=some l
theorem Rm.Yz{n:Nat}{A:Around}(x:Rm n A):Nh n A:=⟨x.hd,x.dp,x.un,let⟨_,_,h,_,_,_,_⟩:=x.fr;⟨_,h⟩⟩
theorem Nh.depth{n:Nat}{A:Around}(x:Nh n A):A.depth<recursionLimit:=by have:=x.dp;show _<1000;lia
theorem Rm.cLine{n:Nat}{A:Around}(x:Rm n A):A.units+800<cLine:=by have:=x.un;have:=cLine_is;lia
theorem Rm.depth{n:Nat}{A:Around}(x:Rm n A):A.depth<recursionLimit:=by have:=x.dp;show _<1000;lia
def K4(W:Wd)(σ:PH)(s:Shared)(Q:PV->PH->Prop):Value->Shared->Prop:=λ v s'=>
 ∃pv B9,Q pv B9∧VR s'.heap pv v∧SR W B9 s'.heap∧kC σ s.heap B9 s'.heap∧Sm s s'
def J9(W:Wd)(n:Nat)(f:Value)(args:List PV)(σ:PH)(Q:PV->PH->Prop):Prop:=
 ∀A s vs,Rm n A->SR W σ s.heap->bP s.heap args vs->wpAny W.M A (call f vs) (K4 W σ s Q) (λ _ _=>False) s
def iL{β:Type}(d:β)(g:Int->β)(x:PV):β:=PV.casesOn (motive_1:=λ _=>β) x d (λ _=>d) g (λ _=>d) (λ _=>d) (λ _=>d) (λ _ _=>d) d
theorem dD{β:Type}{P:PV->Prop}{r d:β}{g:Int->β}(x:PV)(h:iL d g x=r)(z:d=r->P x)(k:∀a,g a=r->P (.int a)):P x:=PV.casesOn (motive_1:=λ x=>iL d g x=r->(d=r->P x)->P x) x (λ h z=>z h) (λ _ h z=>z h) (λ a h _=>k a h) (λ _ h z=>z h) (λ _ h z=>z h) (λ _ h z=>z h) (λ _ _ h z=>z h) (λ h z=>z h) h z
def onStr{β:Type}(d:β)(g:Str->β)(x:PV):β:=PV.casesOn (motive_1:=λ _=>β) x d (λ _=>d) (λ _=>d) g (λ _=>d) (λ _=>d) (λ _ _=>d) d
theorem tR{β:Type}{P:PV->Prop}{r d:β}{g:Str->β}(x:PV)(h:onStr d g x=r)(z:d=r->P x)(k:∀a,g a=r->P (.str a)):P x:=PV.casesOn (motive_1:=λ x=>onStr d g x=r->(d=r->P x)->P x) x (λ h z=>z h) (λ _ h z=>z h) (λ _ h z=>z h) (λ a h _=>k a h) (λ _ h z=>z h) (λ _ h z=>z h) (λ _ _ h z=>z h) (λ h z=>z h) h z
def AS{β:Type}(d:β)(g:(List PV)->β)(x:PV):β:=PV.casesOn (motive_1:=λ _=>β) x d (λ _=>d) (λ _=>d) (λ _=>d) g (λ _=>d) (λ _ _=>d) d
theorem AR{β:Type}{P:PV->Prop}{r d:β}{g:(List PV)->β}(x:PV)(h:AS d g x=r)(z:d=r->P x)(k:∀a,g a=r->P (.tup a)):P x:=PV.casesOn (motive_1:=λ x=>AS d g x=r->(d=r->P x)->P x) x (λ h z=>z h) (λ _ h z=>z h) (λ _ h z=>z h) (λ _ h z=>z h) (λ a h _=>k a h) (λ _ h z=>z h) (λ _ _ h z=>z h) (λ h z=>z h) h z
def nM{β:Type}(d:β)(g:Addr->β)(x:PV):β:=PV.casesOn (motive_1:=λ _=>β) x d (λ _=>d) (λ _=>d) (λ _=>d) (λ _=>d) g (λ _ _=>d) d
theorem dB{β:Type}{P:PV->Prop}{r d:β}{g:Addr->β}(x:PV)(h:nM d g x=r)(z:d=r->P x)(k:∀a,g a=r->P (.ref a)):P x:=PV.casesOn (motive_1:=λ x=>nM d g x=r->(d=r->P x)->P x) x (λ h z=>z h) (λ _ h z=>z h) (λ _ h z=>z h) (λ _ h z=>z h) (λ _ h z=>z h) (λ a h _=>k a h) (λ _ _ h z=>z h) (λ h z=>z h) h z
def iK{β:Type}(d:β)(g:(List PV)->β)(o:Option PO):β:=Option.casesOn (motive:=λ _=>β) o d λ p=>PO.casesOn (motive:=λ _=>β) p g (λ _ _=>d) (λ _ _=>d) (λ _ _=>d)
theorem dC{β:Type}{P:Option PO->Prop}{r d:β}{g:(List PV)->β}(o:Option PO)(h:iK d g o=r)(z:d=r->P o)(k:∀a,g a=r->P (some (.list a))):P o:=Option.casesOn (motive:=λ o=>iK d g o=r->(d=r->P o)->P o) o (λ h z=>z h) (λ p=>PO.casesOn (motive:=λ p=>iK d g (some p)=r->(d=r->P (some p))->P (some p)) p (λ a h _=>k a h) (λ _ _ h z=>z h) (λ _ _ h z=>z h) (λ _ _ h z=>z h)) h z
def cG{β:Type}(d:β)(g:(List (PK×PV))->Nat->β)(o:Option PO):β:=Option.casesOn (motive:=λ _=>β) o d λ p=>PO.casesOn (motive:=λ _=>β) p (λ _=>d) g (λ _ _=>d) (λ _ _=>d)
theorem lE{β:Type}{P:Option PO->Prop}{r d:β}{g:(List (PK×PV))->Nat->β}(o:Option PO)(h:cG d g o=r)(z:d=r->P o)(k:∀a b,g a b=r->P (some (.dict a b))):P o:=Option.casesOn (motive:=λ o=>cG d g o=r->(d=r->P o)->P o) o (λ h z=>z h) (λ p=>PO.casesOn (motive:=λ p=>cG d g (some p)=r->(d=r->P (some p))->P (some p)) p (λ _ h z=>z h) (λ a b h _=>k a b h) (λ _ _ h z=>z h) (λ _ _ h z=>z h)) h z
def lD{β:Type}(d:β)(g:Addr->Addr->β)(o:Option PO):β:=Option.casesOn (motive:=λ _=>β) o d λ p=>PO.casesOn (motive:=λ _=>β) p (λ _=>d) (λ _ _=>d) g (λ _ _=>d)
theorem AT{β:Type}{P:Option PO->Prop}{r d:β}{g:Addr->Addr->β}(o:Option PO)(h:lD d g o=r)(z:d=r->P o)(k:∀a b,g a b=r->P (some (.inst a b))):P o:=Option.casesOn (motive:=λ o=>lD d g o=r->(d=r->P o)->P o) o (λ h z=>z h) (λ p=>PO.casesOn (motive:=λ p=>lD d g (some p)=r->(d=r->P (some p))->P (some p)) p (λ _ h z=>z h) (λ _ _ h z=>z h) (λ a b h _=>k a b h) (λ _ _ h z=>z h)) h z
def tS{β:Type}(d:β)(g:Addr->(List (String×PV))->β)(o:Option PO):β:=Option.casesOn (motive:=λ _=>β) o d λ p=>PO.casesOn (motive:=λ _=>β) p (λ _=>d) (λ _ _=>d) (λ _ _=>d) g
theorem AU{β:Type}{P:Option PO->Prop}{r d:β}{g:Addr->(List (String×PV))->β}(o:Option PO)(h:tS d g o=r)(z:d=r->P o)(k:∀a b,g a b=r->P (some (.attrs a b))):P o:=Option.casesOn (motive:=λ o=>tS d g o=r->(d=r->P o)->P o) o (λ h z=>z h) (λ p=>PO.casesOn (motive:=λ p=>tS d g (some p)=r->(d=r->P (some p))->P (some p)) p (λ _ h z=>z h) (λ _ _ h z=>z h) (λ _ _ h z=>z h) (λ a b h _=>k a b h)) h z
section
variable{h:Heap}{P:Value->Prop}{v:Value}
theorem VR.WZ(r:VR h .none v)(k:P .none):P v:=by cases r;exact k
theorem VR.Sk{b:Bool}(r:VR h (.bool b) v)(k:P (.bool b)):P v:=by cases r;exact k
theorem VR.mG{i:Int}(r:VR h (.int i) v)(k:∀t,P (.int i t)):P v:=by cases r;exact k _
theorem VR.qD{s:Str}(r:VR h (.str s) v)(k:∀t,s.length<=sizeLine->P (.str s t)):P v:=by cases r;exact k _ ‹_›
theorem VR.tG{a:Addr}(r:VR h (.ref a) v)(k:P (.ref a)):P v:=by cases r;exact k
theorem VR.xN{xs:List PV}(r:VR h (.tup xs) v)(k:∀a vs,h.IsTuple a (List.toArray vs)->bP h xs vs->xs.length<=2^25->P (.ref a)):P v:=by cases r;exact k _ _ ‹_› ‹_› ‹_›
end
theorem Tn{k:Nat}(h:k<32768):(k:Int).natAbs<10^7:=D1 h (C3 rfl)
theorem XD(d l:Nat):min d l+(l - d+1)=l+1:=by rw[<-kD,Nat.min_comm,aF (min l d),Nat.sub_add_min_cancel]
theorem DW{a b c n:Nat}(h:a<b - c)(hb:b<=n):a<=n:=M8 (D1 h (A9 (Nat.sub_le ..) hb))
theorem Zp{C:Nat->Prop}{d:Nat}(h:d<2)(h0:C 0)(h1:C 1):C d:=by
 cases d with
 |zero=>exact h0
 |succ d=>cases d with
  |zero=>exact h1
  |succ d=>exact absurd h (Nat.not_lt_of_le (aA 2 d))
end
mutual
inductive PE where
 |none|bool (b:Bool)|int (i:Int)|str (s:String)
 |loc (i:Nat)
 |gi (k:Nat) (i:Int)
 |gs (k:Nat) (xs:List String)
 |attr (o:PE) (f:String)
 |sub (o i:PE)
 |wQ (o lo hi:PE)
 |absent
 |bin (op:Operator) (a b:PE)
 |neg (a:PE)
 |cmp (op:CmpOp) (a b:PE)
 |KF (op CR:CmpOp) (a b c:PE)
 |not (a:PE)
 |and (a b:PE)|or (a b:PE)
 |ite (c a b:PE)
 |tup (es:uM)|list (es:uM)|dP
 |call (k:Nat) (f:Value) (args:uM)
 |H2 (o:PE) (f:String) (args:uM)
 |sup (f:Nat) (args:uM)
 |comp (elt:PE) (tg:Nat) (it cond:PE)
 |any
inductive uM where
 |nil|cons (e:PE) (r:uM)
end
inductive Fl where
 |next|brk|cont|ret (v:PV)
set_option genCtorIdx false in
mutual
inductive PS where
 |expr (e:PE)
 |asg (i:Nat) (e:PE)
 |pK (is:List Nat) (e:PE)
 |Q1 (o:PE) (f:String) (e:PE)
 |aN (o i e:PE)
 |ite (c:PE) (a b:V0)
 |IB (c:PE) (b:V0)
 |R6 (i:Nat) (it:PE) (b:V0)
 |rT (is:List Nat) (it:PE) (b:V0)
 |forR (i:Nat) (it:PE) (b:V0)
 |ret (e:PE)|WJ|cont|pass|any
inductive V0 where
 |nil|cons (s:PS) (r:V0)
end
def zJ(σ:PH):PV->Option Bool
 |.none=>some false
 |.bool b=>some b
 |.int i=>some (decide (i≠0))
 |.str s=>some (decide (s.length≠0))
 |.ref a=>iK none (λ xs=>some (!xs.isEmpty)) (σ a)
 |_=>none
def xQ(xs:List PV)(i:Int):Option PV:=if 0<=i then xs[i.toNat]? else if 0<=(xs.length:Int)+i then xs[((xs.length:Int)+i).toNat]? else none
def intsOf:List PV->Option (List Int)
 |[]=>some []
 |.int i::r=>(intsOf r).map (i::·)
 |_=>none
theorem rQ(l:List Int):intsOf (l.map .int)=some l:=by
 induction l with
 |nil=>rfl
 |cons i r ih=>exact C7 (·.map (i::·)) ih
theorem TH{xs:List PV}{l:List Int}(h:intsOf xs=some l):xs=l.map .int:=by
 induction xs generalizing l with
 |nil=>cases h;rfl
 |cons x r ih=>
  cases x with
  |int i=>
   refine A0 (O3.mp h) λ l' hZ=>?_;generalize hZ.1=e;clear h;obtain rfl:=hZ.2;try clear hZ
   rw[ih e];rfl
  |_=>cases h
def keyOf:PV->Option PK
 |.int i=>some (.int i)
 |.str s=>some (.str s)
 |.tup xs=>(intsOf xs).map .bN
 |_=>none
def gE(σ:PH)(o k:PV):Option PV:=
 nM (AS none (λ xs=>iL none (xQ xs) k) o) (λ a=>cG (iK none (λ xs=>iL none (xQ xs) k) (σ a)) (λ es _=>(keyOf k).bind λ k=>es.lookup k) (σ a)) o
def fld(σ:PH)(o:PV)(f:String):Option PV:=nM none (λ a=>lD none (λ C dx=>tS none (λ D fs=>if D=C then fs.lookup f else none) (σ dx)) (σ a)) o
def HB:PK->Bool
 |.int _=>true
 |_=>false
def jU:PK->Bool
 |.str _=>true
 |_=>false
def jT:PK->Bool
 |.bN _=>true
 |_=>false
def itemsOf(σ:PH):PV->Option (List PV)
 |.ref a=>cG (iK none some (σ a)) (λ es _=>if es.all (λ p=>!jU p.1)=true then some (es.map (·.1.pv))else none) (σ a)
 |.tup xs=>some xs
 |.rZ lo hi=>some ((List.range (hi - lo).toNat).map λ i:Nat=>.int (lo+(i:Int)))
 |_=>none
def scalar:PV->Bool
 |.int _=>true
 |.str _=>true
 |_=>false
def fA:PV->Bool
 |.tup xs=>xs.all scalar
 |x=>scalar x
def vW(a b:PV):Bool:=iL (onStr false (λ s=>onStr false (λ t=>decide (s=t)) b) a) (λ i=>iL false (λ j=>decide (i=j)) b) a
def DJ:List PV->List PV->Bool
 |[],[]=>true
 |a::r,b::q=>vW a b&&DJ r q
 |_,_=>false
def KC(a b:PV):Bool:=AS (vW a b) (λ xs=>AS false (DJ xs) b) a
def BS:List PV->List PV->Bool
 |[],[]=>true
 |a::r,b::q=>KC a b&&BS r q
 |_,_=>false
def DD(x:PV)(xs:List PV):Option Bool:=if And (fA x=true) (xs.all fA=true)then some (xs.any λ y=>KC y x)else none
def Ij(σ:PH)(a b:Addr):Option Bool:=iK none (λ xs=>iK none (λ ys=>if And (xs.all fA=true) (ys.all fA=true)then some (BS xs ys)else none) (σ b)) (σ a)
def Bk(σ:PH)(x y:PV):Option Bool:=nM (if And (scalar x=true) (scalar y=true)then some (vW x y)else none) (λ a=>nM none (Ij σ a) y) x
def U3(k:PK)(es:List (PK×PV)):Bool:=match k with
 |.int _=>es.all (HB ·.1)
 |.str _=>es.all (jU ·.1)
 |.bN _=>es.all (jT ·.1)
def QP(σ:PH)(x y:PV):Option Bool:=
 nM (AS none (DD x) y) (λ a=>cG (iK none (DD x) (σ a)) (λ es _=>(keyOf x).bind λ k=>if U3 k es=true then some (es.lookup k).isSome else none) (σ a)) y
def isNone:PV->Bool
 |.none=>true
 |_=>false
def XO(f:Int->Int->Bool)(x y:PV):Option Bool:=iL none (λ i=>iL none (λ j=>some (f i j)) y) x
def iR(σ:PH)(op:CmpOp)(a b:PV):Option Bool:=match op with
 |.Eq=>Bk σ a b
 |.NotEq=>(Bk σ a b).map (!·)
 |.Lt=>XO (λ i j=>decide (i<j)) a b
 |.LtE=>XO (λ i j=>decide (i<=j)) a b
 |.Gt=>XO (λ i j=>decide (j<i)) a b
 |.GtE=>XO (λ i j=>decide (j<=i)) a b
 |.Is=>if isNone b=true then some (isNone a)else none
 |.IsNot=>if isNone b=true then some (!isNone a)else none
 |.In=>QP σ a b
 |.NotIn=>(QP σ a b).map (!·)
def IP(i:Int):Prop:=And (-(2:Int)^62<i) (i<(2:Int)^62)
def Mu(op:Operator)(Q:PV->Prop)(a b:Int):Prop:=match op with
 |.Add=>Q (.int (a+b))
 |.Sub=>Q (.int (a - b))
 |.Mult=>(IP a∨IP b)∧Q (.int (a*b))
 |.FloorDiv=>b≠0∧Q (.int (Int.fdiv a b))
 |.Mod=>b≠0∧Q (.int (Int.fmod a b))
 |.BitOr=>Q (.int (Builtin.bitOr a b))
 |.BitAnd=>Q (.int (Builtin.bitAnd a b))
 |.LShift=>0<=b∧b<=1000000∧IP a∧Q (.int (a*2^b.toNat))
 |.RShift=>0<=b∧Q (.int (Int.fdiv a (2^b.toNat)))
 |_=>False
def mO(op:Operator)(σ:PH)(Q:PV->PH->Prop)(x y:PV):Prop:=
 iL (onStr (nM False (λ a=>nM (iL False (λ n=>op=.Mult∧∃xs,σ a=some (.list xs)∧0<=n∧n<=2^24∧xs.length=1∧∀c,σ c=none->Q (.ref c) (σ.set c (.list ((List.replicate n.toNat xs).flatten)))) y)
   (λ b=>op=.Add∧∃xs ys,σ a=some (.list xs)∧σ b=some (.list ys)∧xs.length+ys.length<=2^24∧∀c,σ c=none->Q (.ref c) (σ.set c (.list (xs++ys)))) y) x)
  (λ a=>onStr False (λ b=>op=.Add∧a.length+b.length<=2^24∧Q (.str (a++b)) σ) y) x)
  (λ a=>iL False (Mu op (λ v=>Q v σ) a) y) x
def Qi(lo:Option Int):Nat:=(lo.map Int.toNat).getD 0
def Qz(hi:Option Int)(n:Nat):Nat:=(hi.map Int.toNat).getD n
def fE{α:Type}(xs:List α)(lo hi:Option Int):List α:=(xs.take (Qz hi xs.length)).drop (Qi lo)
def DB:Option Int->Bool
 |some i=>decide (And (0<=i) (i<2^62))
 |none=>true
def Ga:PV->Option (Option Int)
 |.none=>some none
 |.int i=>some (some i)
 |_=>none
def Pk(W:Wd)(σ:PH)(lo hi:PV)(Q:PV->PH->Prop):PV->Prop
 |.ref a=>∃xs l h,(σ a=some (.list xs)∨a=W.xO∧xs=W.PL.map .int)∧Ga lo=some l∧Ga hi=some h∧DB l=true∧DB h=true∧xs.length<=2^24∧∀c,σ c=none->Q (.ref c) (σ.set c (.list (fE xs l h)))
 |.str s=>∃l h,Ga lo=some l∧Ga hi=some h∧Q (.str (Txt.slice s l h)) σ
 |_=>False
def QF:List (String×String):=[("append","list.append"),("extend","list.extend"),("insert","list.insert"),("pop","list.pop"),("index","list.index")]
def HJ:List (String×String):=[("get","dict.get")]
def GC:List (String×String):=[("join","str.join"),("ljust","str.ljust"),("strip","str.strip"),("find","str.find"),("startswith","str.startswith"),("split","str.split")]
abbrev T(α:Type):=List PV->PH->(α->PH->Prop)->Prop
structure WP where
 v:T PV
 t:T Bool
def vO(v:T PV):WP:=⟨v,λ ρ σ Q=>v ρ σ λ x B9=>∃b,zJ B9 x=some b∧Q b B9⟩
def pE(V4:PH->Prop)(turn:PV->PH->(Option PV->PH->Prop)->Prop):List PV->List PV->PH->(List PV->PH->Prop)->Prop
 |[],acc,σ,Q=>Q acc σ
 |x::r,acc,σ,Q=>turn x σ λ y B9=>V4 B9∧pE V4 turn r (match y with|some y=>acc++[y]|none=>acc) B9 Q
abbrev TS:=List PV->PH->(Fl->List PV->PH->Prop)->Prop
def jW(V4:PH->Prop)(turn:PV->TS):List PV->TS
 |[],ρ,σ,Q=>Q .next ρ σ
 |x::r,ρ,σ,Q=>turn x ρ σ λ fl O5 B9=>match fl with
  |.next=>V4 B9∧jW V4 turn r O5 B9 Q
  |.cont=>V4 B9∧jW V4 turn r O5 B9 Q
  |.brk=>Q .next O5 B9
  |.ret v=>Q (.ret v) O5 B9
def uP(test:T Bool)(body:TS):Nat->TS
 |0,_,_,_=>False
 |k+1,ρ,σ,Q=>test ρ σ λ b B4=>match b with
  |false=>Q .next ρ B4
  |true=>body ρ B4 λ fl O5 B9=>match fl with
   |.next=>uP test body k O5 B9 Q
   |.cont=>uP test body k O5 B9 Q
   |.brk=>Q .next O5 B9
   |.ret v=>Q (.ret v) O5 B9
def eI(n:Nat)(x:PV):Option (List PV):=match n with
 |0=>some [x]
 |n=>match x with
  |.tup xs=>if xs.length=n then some xs else none
  |_=>none
def aO:List Nat->List PV->List PV->List PV
 |i::is,x::xs,ρ=>aO is xs (ρ.set i x)
 |_,_,ρ=>ρ
structure fM where
 meths:List (Addr×List (String×Addr))
 Ds:List (Addr×List String)
def fM.H2(tb:fM)(C:Addr)(f:String):Option Addr:=(tb.meths.lookup C).bind λ l=>l.lookup f
def fM.fld(tb:fM)(C:Addr)(f:String):Bool:=(tb.Ds.lookup C).any λ l=>l.contains f
def dZ(tb:fM)(σ:PH)(o:PV)(f:String):Option Value:=
 nM (onStr none (λ _=>(GC.lookup f).map .builtin) o) (λ a=>lD (cG (iK none (λ _=>(QF.lookup f).map .builtin) (σ a)) (λ _ _=>(HJ.lookup f).map .builtin) (σ a))
  (λ C dx=>tS none (λ D fs=>if D=C then(if(fs.lookup f).isNone=true then(tb.H2 C f).map .ref else none)else none) (σ dx)) (σ a)) o
def lU(f:String)(x:PV):List (String×PV)->List (String×PV)
 |[]=>[(f,x)]
 |(g,y)::r=>if g=f then(f,x)::r else(g,y)::lU f x r
def putK(k:PK)(x:PV):List (PK×PV)->List (PK×PV)
 |[]=>[(k,x)]
 |(j,y)::r=>if j=k then(k,x)::r else(j,y)::putK k x r
theorem lT{k:PK}{x:PV}{p:PK×PV}{r:List (PK×PV)}:putK k x (p::r)=if p.1=k then(k,x)::r else(p.1,p.2)::putK k x r:=rfl
def kP(tb:fM)(σ:PH)(f:String)(x:PV)(Q:PH->Prop):PV->Prop
 |.ref a=>∃C dx fs,σ a=some (.inst C dx)∧σ dx=some (.attrs C fs)∧tb.fld C f=true∧fs.length<=100∧Q (σ.set dx (.attrs C (lU f x fs)))
 |_=>False
def kO(σ:PH)(i x:PV)(Q:PH->Prop)(o:PV):Prop:=nM False (λ a=>cG (iK False (λ xs=>∃k:Nat,i=.int k∧k<xs.length∧Q (σ.set a (.list (xs.set k x)))) (σ a))
 (λ es _=>∃k,keyOf i=some k∧U3 k es=true∧es.length<2^24∧∀TW,Q (σ.set a (.dict (putK k x es) TW))) (σ a)) o
def M9(B4:PH)(v:PV)(σ:PH):Prop:=match v with
 |.ref a=>σ a=B4 a
 |_=>True
def mF(σ:PH)(v:PV)(xs:List PV):Prop:=itemsOf σ v=some xs∧xs.length<=2^24∧match v with
 |.rZ lo hi=>IP lo∧IP hi∧(hi - lo).toNat<=2^24
 |_=>True
mutual
noncomputable def wp(W:Wd)(tb:fM)(n:Nat):PE->WP
 |.none=>vO λ _ σ Q=>Q .none σ
 |.bool b=>vO λ _ σ Q=>Q (.bool b) σ
 |.int i=>vO λ _ σ Q=>Q (.int i) σ
 |.str s=>vO λ _ σ Q=>Q (.str (Str.ofString s)) σ
 |.absent=>vO λ _ σ Q=>Q .none σ
 |.loc i=>vO λ ρ σ Q=>match ρ[i]? with
  |some .M7=>False
  |some v=>Q v σ
  |none=>False
 |.gi _ i=>vO λ _ σ Q=>Q (.int i) σ
 |.gs _ xs=>vO λ _ σ Q=>Q (.tup (xs.map λ s=>.str (Str.ofString s))) σ
 |.attr o f=>vO λ ρ σ Q=>(wp W tb n o).v ρ σ λ ov B4=>∃x,fld B4 ov f=some x∧Q x B4
 |.sub o i=>vO λ ρ σ Q=>(wp W tb n o).v ρ σ λ ov B4=>(wp W tb n i).v ρ B4 λ iv H6=>∃x,gE H6 ov iv=some x∧Q x H6
 |.wQ o lo hi=>vO λ ρ σ Q=>(wp W tb n o).v ρ σ λ ov B4=>(wp W tb n lo).v ρ B4 λ lv H6=>(wp W tb n hi).v ρ H6 λ hv R9=>Pk W R9 lv hv Q ov
 |.bin op a b=>vO λ ρ σ Q=>(wp W tb n a).v ρ σ λ x B4=>(wp W tb n b).v ρ B4 λ y H6=>mO op H6 Q x y
 |.neg a=>vO λ ρ σ Q=>(wp W tb n a).v ρ σ λ x B4=>match x with
  |.int i=>Q (.int (-i)) B4
  |_=>False
 |.cmp op a b=>vO λ ρ σ Q=>(wp W tb n a).v ρ σ λ x B4=>(wp W tb n b).v ρ B4 λ y H6=>∃r,iR H6 op x y=some r∧Q (.bool r) H6
 |.KF op CR a b c=>vO λ ρ σ Q=>(wp W tb n a).v ρ σ λ x B4=>(wp W tb n b).v ρ B4 λ y H6=>∃r,iR H6 op x y=some r∧match r with
  |false=>Q (.bool false) H6
  |true=>(wp W tb n c).v ρ H6 λ z R9=>∃r,iR R9 CR y z=some r∧Q (.bool r) R9
 |.not a=>⟨λ ρ σ Q=>(wp W tb n a).v ρ σ λ x B4=>∃b,zJ B4 x=some b∧Q (.bool !b) B4,λ ρ σ Q=>(wp W tb n a).t ρ σ λ b B4=>Q (!b) B4⟩
 |.and a b=>⟨λ ρ σ Q=>(wp W tb n a).v ρ σ λ x B4=>∃t,zJ B4 x=some t∧match t with
   |true=>(wp W tb n b).v ρ B4 Q
   |false=>Q x B4,
  λ ρ σ Q=>(wp W tb n a).t ρ σ λ t B4=>match t with
   |true=>(wp W tb n b).t ρ B4 Q
   |false=>Q false B4⟩
 |.or a b=>⟨λ ρ σ Q=>(wp W tb n a).v ρ σ λ x B4=>∃t,zJ B4 x=some t∧match t with
   |false=>(wp W tb n b).v ρ B4 Q
   |true=>Q x B4,
  λ ρ σ Q=>(wp W tb n a).t ρ σ λ t B4=>match t with
   |false=>(wp W tb n b).t ρ B4 Q
   |true=>Q true B4⟩
 |.ite c a b=>⟨λ ρ σ Q=>(wp W tb n c).t ρ σ λ t B4=>match t with
   |true=>(wp W tb n a).v ρ B4 Q
   |false=>(wp W tb n b).v ρ B4 Q,
  λ ρ σ Q=>(wp W tb n c).t ρ σ λ t B4=>match t with
   |true=>(wp W tb n a).t ρ B4 Q
   |false=>(wp W tb n b).t ρ B4 Q⟩
 |.tup es=>vO λ ρ σ Q=>DO W tb n es ρ σ λ xs B4=>Q (.tup xs) B4
 |.list es=>vO λ ρ σ Q=>DO W tb n es ρ σ λ xs B4=>∀c,B4 c=none->Q (.ref c) (B4.set c (.list xs))
 |.dP=>vO λ _ σ Q=>∀c,σ c=none->Q (.ref c) (σ.set c (.dict [] 0))
 |.call _ f args=>vO λ ρ σ Q=>DO W tb n args ρ σ λ xs B4=>J9 W n f xs B4 Q
 |.H2 o f args=>vO λ ρ σ Q=>(wp W tb n o).v ρ σ λ ov B4=>∃fv,dZ tb B4 ov f=some fv∧DO W tb n args ρ B4 λ xs H6=>J9 W n fv (ov::xs) H6 Q
 |.sup f args=>vO λ ρ σ Q=>∃self,ρ[0]? =some (.ref self)∧DO W tb n args ρ σ λ xs H6=>J9 W n (.ref f) (.ref self::xs) H6 Q
 |.comp elt tg it cond=>vO λ ρ σ Q=>(wp W tb n it).v ρ σ λ iv B4=>∃xs,mF B4 iv xs∧pE (M9 B4 iv) (λ x σ R=>∃ys,eI tg x=some ys∧
   (wp W tb n cond).t (ρ++ys) σ λ b B9=>match b with
    |true=>(wp W tb n elt).v (ρ++ys) B9 λ y S7=>R (some y) S7
    |false=>R .none B9) xs [] B4 λ ys H6=>∀c,H6 c=none->Q (.ref c) (H6.set c (.list ys))
 |.any=>vO λ _ _ _=>False
noncomputable def DO(W:Wd)(tb:fM)(n:Nat):uM->T (List PV)
 |.nil=>λ _ σ Q=>Q [] σ
 |.cons e r=>λ ρ σ Q=>(wp W tb n e).v ρ σ λ x B4=>DO W tb n r ρ B4 λ xs H6=>Q (x::xs) H6
end
mutual
noncomputable def ws(W:Wd)(tb:fM)(n:Nat):PS->TS
 |.expr e=>λ ρ σ Q=>(wp W tb n e).v ρ σ λ _ B4=>Q .next ρ B4
 |.asg i e=>λ ρ σ Q=>(wp W tb n e).v ρ σ λ x B4=>Q .next (ρ.set i x) B4
 |.pK is e=>λ ρ σ Q=>(wp W tb n e).v ρ σ λ x B4=>∃xs,x=.tup xs∧xs.length=is.length∧Q .next (aO is xs ρ) B4
 |.Q1 o f e=>λ ρ σ Q=>(wp W tb n e).v ρ σ λ x B4=>(wp W tb n o).v ρ B4 λ ov H6=>kP tb H6 f x (λ R9=>Q .next ρ R9) ov
 |.aN o i e=>λ ρ σ Q=>(wp W tb n e).v ρ σ λ x B4=>(wp W tb n o).v ρ B4 λ ov H6=>(wp W tb n i).v ρ H6 λ iv R9=>kO R9 iv x (λ mW=>Q .next ρ mW) ov
 |.ite c a b=>λ ρ σ Q=>(wp W tb n c).t ρ σ λ t B4=>match t with
  |true=>S8 W tb n a ρ B4 Q
  |false=>S8 W tb n b ρ B4 Q
 |.IB c b=>λ ρ σ Q=>∃k,uP (wp W tb n c).t (S8 W tb n b) k ρ σ Q
 |.R6 i it b=>λ ρ σ Q=>(wp W tb n it).v ρ σ λ iv B4=>∃xs,mF B4 iv xs∧jW (M9 B4 iv) (λ x ρ σ R=>S8 W tb n b (ρ.set i x) σ R) xs ρ B4 Q
 |.rT is it b=>λ ρ σ Q=>(wp W tb n it).v ρ σ λ iv B4=>∃xs,mF B4 iv xs∧jW (M9 B4 iv) (λ x ρ σ R=>∃ys,x=.tup ys∧ys.length=is.length∧S8 W tb n b (aO is ys ρ) σ R) xs ρ B4 Q
 |.forR i it b=>λ ρ σ Q=>(wp W tb n it).v ρ σ λ iv B4=>∃a xs,iv=.ref a∧B4 a=some (.list xs)∧xs.length<=2^24∧jW (M9 B4 iv) (λ x ρ σ R=>S8 W tb n b (ρ.set i x) σ R) xs.reverse ρ B4 Q
 |.ret e=>λ ρ σ Q=>(wp W tb n e).v ρ σ λ x B4=>Q (.ret x) ρ B4
 |.WJ=>λ ρ σ Q=>Q (.ret .none) ρ σ
 |.cont=>λ ρ σ Q=>Q .cont ρ σ
 |.pass=>λ ρ σ Q=>Q .next ρ σ
 |.any=>λ _ _ _=>False
noncomputable def S8(W:Wd)(tb:fM)(n:Nat):V0->TS
 |.nil=>λ ρ σ Q=>Q .next ρ σ
 |.cons s r=>λ ρ σ Q=>ws W tb n s ρ σ λ fl O5 B9=>match fl with
  |.next=>S8 W tb n r O5 B9 Q
  |.brk=>Q .brk O5 B9
  |.cont=>Q .cont O5 B9
  |.ret v=>Q (.ret v) O5 B9
end
structure Wd.Ok(W:Wd):Prop where
 ID:W.K.In W.h₀
 g:W.h₀.Ns mainGlobals W.mg
 b:W.h₀.Ns builtinsNs W.mb
 bi:∀x:Str,x≠"__name__"->W.mb x=bootBuiltins x
 nolimit:W.h₀.NoLimit
 digits:∃mc,And (W.h₀.Ns cStatics mc) (mc "sys.int_max_str_digits"=none)
 seer:W.h₀.NoSeer
 tree:W.prog.given.tree=none
 Vn:∃o,W.h₀.get? sysModules=some o
 bu:∃vs:List Value,W.h₀.IsList W.xO vs.toArray∧bP W.h₀ (W.PL.map .int) vs∧W.PL.length<=2^20
def DK(env:Env)(x:Str):Option Addr:=if x="__class__" then none else env.cells.lookup x
theorem mK{env:Env}{x:Str}{c:Addr}(h:DK env x=some c):env.cells.lookup x=some c:=by
 unfold DK at h;split at h
 ·cases h
 ·exact h
theorem NU{env:Env}{x:Str}{c:Addr}(h:DK env x=some c):x≠"__class__":=by
 unfold DK at h;split at h
 ·cases h
 ·assumption
theorem BX{env:Env}{x:Str}{c:Addr}(n:x≠"__class__")(h:env.cells.lookup x=some c):DK env x=some c:=by
 unfold DK;rw[G0 n];exact h
structure U5(env:Env):Prop where
 kind:env.scope.kind=.function
 glob:env.globals=mainGlobals
 blt:env.builtins=builtinsNs
 gen:env.scope.isGenerator=false
 Ik:env.scope.isCoroutine=false
 cls:∀x:Str,x≠("__class__":Str)->env.kindOf x=some .cell∨env.kindOf x=some .free->∃c,DK env x=some c
def rL(env:Env)(b:Addr):Prop:=b=env.locals∨∃x,DK env x=some b
structure FR(W:Wd)(ns:List (Option Str))(ρ:List PV)(env:Env)(σ:PH)(h:Heap):Prop where
 val:∃m,h.Ns env.locals m∧∀(i:Nat) (x:Str) (pv:PV),ns[i]? =some (some x)->ρ[i]? =some pv->pv≠.M7->
  ∃v,VR h pv v∧((env.kindOf x=some .local∧m x=some v)∨((env.kindOf x=some .cell∨env.kindOf x=some .free)∧∃c,DK env x=some c∧h.IsCell c (some v)))
 cells:∀x c,DK env x=some c->∃v,h.IsCell c v
 inj:∀x y c,DK env x=some c->DK env y=some c->x=y
 own:∀b,rL env b->σ b=none∧W.h₀.get? b=none
 len:ρ.length=ns.length
 nd:∀(i j:Nat) (x:Str),ns[i]? =some (some x)->ns[j]? =some (some x)->i=j
theorem FR.eN{W:Wd}{ns:List (Option Str)}{ρ:List PV}{env:Env}{σ B9:PH}{h h':Heap}(S:SR W σ h)(F:FR W ns ρ env σ h)(x:kC σ h B9 h'):FR W ns ρ env B9 h':=by
 have m:=x.V7 S
 have cell:∀y c v,DK env y=some c->h.IsCell c v->h'.IsCell c v:=λ y c v e ⟨o,ho,hd⟩=>⟨o,(x.bO c o ho (F.own c (.inr ⟨y,e⟩)).1).1,hd⟩
 refine A0 (F.val) λ mm hZ=>?_;delta hZ hn hv
 intros hn o hZ;intros hZ es Q0;intros Q0 ep P4;delta P4 ho r
 have hL:=x.bO env.locals o ho (F.own _ (.inl rfl)).1
 refine⟨⟨mm,⟨o,es,ep,hL.1,r⟩,λ i y pv a b c=>?_⟩,λ y c e=>?_,F.inj,λ b hb=>⟨?_,(F.own b hb).2⟩,F.len,F.nd⟩
 ·refine A0 (hv i y pv a b c) λ v hZ=>?_;delta hZ r1 q
  refine⟨v,r1.V7 m,q.imp id λ⟨k,c',e,hc⟩=>⟨k,c',e,cell y c' _ e hc⟩⟩
 ·refine A0 (F.cells y c e) λ v hc=>?_;exact⟨v,cell y c v e hc⟩
 ·rcases hb with rfl|⟨y,e⟩
  ·exact hL.2
  ·refine A0 (F.cells y b e) λ v hZ=>?_;intros hZ o' Q0;delta Q0 LE
   exact(x.bO b o' LE (F.own b (.inr ⟨y,e⟩)).1).2
def Ev(W:Wd)(n:Nat)(ns:List (Option Str))(env:Env)(e:Expr)(f:T PV):Prop:=
 ∀A s ρ σ Q,Rm n A->SR W σ s.heap->FR W ns ρ env σ s.heap->f ρ σ Q->wpAny W.M A (eval e env) (K4 W σ s Q) (λ _ _=>False) s
def FQ(W:Wd)(n:Nat)(ns:List (Option Str))(env:Env)(e:Expr)(f:T Bool):Prop:=
 ∀A s ρ σ (Q:Bool->PH->Prop),Rm n A->SR W σ s.heap->FR W ns ρ env σ s.heap->f ρ σ Q->wpAny W.M A (isTrue e env (eval e env)) (λ b s'=>∃B9,Q b B9∧SR W B9 s'.heap∧kC σ s.heap B9 s'.heap∧Sm s s') (λ _ _=>False) s
section
variable{W:Wd}{n:Nat}{ns:List (Option Str)}{env:Env}{A:Around}{s:Shared}{ρ:List PV}{σ:PH}{Q:PV->PH->Prop}{E:Value->Shared->Prop}
theorem K4.now{v:Value}{pv:PV}(S:SR W σ s.heap)(r:VR s.heap pv v)(q:Q pv σ){s':Shared}(hs:∃t,s'={s with toks:=t}):K4 W σ s Q v s':=by
 intros hs t hZ;obtain rfl:=hZ
 exact⟨pv,σ,q,r,S,.refl _ _,⟨s.heap,t,rfl⟩⟩
theorem K4.step{I2:Shared}{B4:PH}(x:kC σ s.heap B4 I2.heap)(e:Sm s I2){v:Value}{s':Shared}(p:K4 W B4 I2 Q v s'):K4 W σ s Q v s':=
 let⟨pv,B9,q,r,S,y,z⟩:=p;⟨pv,B9,q,r,S,x.trans y,e.trans z⟩
theorem Ev.bind{e:Expr}{f:T PV}{OM:PV->PH->Prop}{R:Value->Shared->Prop}(he:Ev W n ns env e f)(rm:Rm n A)(S:SR W σ s.heap)(F:FR W ns ρ env σ s.heap)(h:f ρ σ OM)
  (hk:∀v I2 pv B4,OM pv B4->VR I2.heap pv v->SR W B4 I2.heap->FR W ns ρ env B4 I2.heap->kC σ s.heap B4 I2.heap->Sm s I2->R v I2):
  wpAny W.M A (eval e env) R (λ _ _=>False) s:=
 I7 (he A s ρ σ OM rm S F h) (λ v I2 ⟨pv,B4,q,r,N5,x,e⟩=>hk v I2 pv B4 q r N5 (F.eN S x) x e) λ _ _ x=>x
theorem Eg{k:Nat}{pos:Pos}:Ev W n ns env (.Constant .none k pos) (λ _ σ Q=>Q .none σ):=λ A s ρ σ Q _ S _ q=>by
 rw[eval_Constant];exact D4 (K4.now S .none q ⟨_,rfl⟩)
theorem El{b:Bool}{k:Nat}{pos:Pos}:Ev W n ns env (.Constant (.bool b) k pos) (λ _ σ Q=>Q (.bool b) σ):=λ A s ρ σ Q _ S _ q=>by
 rw[eval_Constant];exact D4 (K4.now S (.bool b) q ⟨_,rfl⟩)
theorem Me{i:Int}{k:Nat}{pos:Pos}:Ev W n ns env (.Constant (.int i) k pos) (λ _ σ Q=>Q (.int i) σ):=λ A s ρ σ Q _ S _ q=>
 wpAny_Constant_int (K4.now S (.int i _) q ⟨_,rfl⟩)
theorem Ly{x:Str}{k:Nat}{pos:Pos}(hz:x.length<=sizeLine):Ev W n ns env (.Constant (.str x) k pos) (λ _ σ Q=>Q (.str x) σ):=λ A s ρ σ Q _ S _ q=>by
 rw[eval_Constant];exact wpAny_mkText (K4.now S (.str x _ hz) q ⟨_,rfl⟩)
theorem Mc{i:Nat}{x:Str}{pos:Pos}(hE:U5 env)(hi:ns[i]? =some (some x))(hd:(x==("__debug__":Str))=false)(hc:(x==("__classdict__":Str))=false):
  Ev W n ns env (.Name x pos) (λ ρ σ Q=>match ρ[i]? with|some .M7=>False|some v=>Q v σ|none=>False):=λ A s ρ σ Q _ S F q=>by
 dsimp only at q
 cases e:ρ[i]? with
 |none=>rw[e]at q;exact q.elim
 |some pv=>
  rw[e]at q
  have hu:pv≠.M7:=by rintro rfl;exact q
  have q':Q pv σ:=by cases pv<;>first|exact q|exact(hu rfl).elim
  refine A0 (F.val) λ m hZ=>?_;delta hZ hn hv
  refine A0 (hv i x pv hi e hu) λ v hZ=>?_;generalize hZ.1=r;obtain⟨k,e1⟩|⟨k,c,e1,e2⟩:=hZ.2;try clear hZ
  ·exact wpAny_Name (wpAny_loadName_local hE.kind k hn e1 (K4.now S r q' ⟨_,rfl⟩)) hd
  ·rcases k with k|k
   ·exact wpAny_Name (wpAny_loadName_cell hE.kind k (mK e1) e2 (K4.now S r q' ⟨_,rfl⟩)) hd
   ·exact wpAny_Name (wpAny_loadName_free hE.kind k (mK e1) e2 (K4.now S r q' ⟨_,rfl⟩) hc) hd
end
section
variable{W:Wd}{n:Nat}{A:Around}{s:Shared}{σ:PH}{Q:PV->PH->Prop}
theorem K4.alloc{o:PO}{ob:Obj}{t:Tok}(S:SR W σ s.heap)(r:OR W (s.heap.push ob) o ob)(q:∀c,σ c=none->Q (.ref c) (σ.set c o)):K4 W σ s Q (.ref s.heap.objs.size) {s with heap:=s.heap.push ob,toks:=t}:=by
 have hZ:=S.alloc (W7 (D7 _)) (Q6 _ _) (N6 _ r.WY) r;delta hZ S' x e
 exact⟨_,_,q _ e,.ref _,S',x,⟨_,_,rfl⟩⟩
theorem SR.list{σ:PH}{h:Heap}(S:SR W σ h){a:Addr}{xs:List PV}(e:σ a=some (.list xs)):∃vs k,h.get? a=some ⟨.type "list",none,.seq vs.toArray k,#[]⟩∧bP h xs vs∧xs.length<=2^25:=by
 refine A0 (S.obj a _ e) λ ob hZ=>?_;delta hZ e1 r
 cases r with|@list _ vs k r b=>exact⟨vs,k,e1,r,b⟩
theorem LZ{a:Int}(h:IP a):a.natAbs<2^64:=by unfold IP at h;lia
theorem IO{a:Int}(h:IP a):Builtin.Int.intBits a<=64:=intBits_le_64 (by unfold IP at h;lia) (by unfold IP at h;lia)
theorem Wd.Ok.room(hW:W.Ok)(S:SR W σ s.heap)(rm:Rm n A):PylongRoom W.M A s:=by
 refine ee2.e (rm.fr) λ e o hZ=>?_;delta hZ f1 f2 f3 f4 f5
 exact PylongRoom.of (hW.nolimit.keeps S.keep) (by have:=rm.dp;simp only[Builtin.pylongFrames,recursionLimit];lia) (hs:=SeerAt.of (hW.seer.keeps S.keep) hW.tree f1 f4 f5 f3 f2)
theorem yG(k:Nat)(v:Value):List.foldl (λ x1 x2=>x1++x2) #[] (List.replicate k #[v])=(List.replicate k v).toArray:=by
 have:∀(k:Nat) (acc:Array Value),List.foldl (λ x1 x2=>x1++x2) acc (List.replicate k #[v])=acc++(List.replicate k v).toArray:=by
  intro k
  induction k with
  |zero=>intro acc;simp
  |succ k ih=>intro acc;simp only[List.replicate_succ,J0,ih];apply Array.ext';simp
 simpa using this k #[]
theorem bP.replicate{h:Heap}{x:PV}{v:Value}(r:VR h x v)(k:Nat):bP h (List.replicate k x) (List.replicate k v):=by
 induction k with
 |zero=>exact .nil
 |succ k ih=>exact .cons r ih
theorem Gg{C:PV->PV->Prop}{op:Operator}{x y:PV}(h:mO op σ Q x y)(ki:∀a b,Mu op (λ v=>Q v σ) a b->C (.int a) (.int b))(ks:∀a b,op=.Add∧a.length+b.length<=2^24∧Q (.str (a++b)) σ->C (.str a) (.str b))
  (kl:∀a b,(op=.Add∧∃xs ys,σ a=some (.list xs)∧σ b=some (.list ys)∧xs.length+ys.length<=2^24∧∀c,σ c=none->Q (.ref c) (σ.set c (.list (xs++ys))))->C (.ref a) (.ref b))
  (km:∀a n,(op=.Mult∧∃xs,σ a=some (.list xs)∧0<=n∧n<=2^24∧xs.length=1∧∀c,σ c=none->Q (.ref c) (σ.set c (.list ((List.replicate n.toNat xs).flatten))))->C (.ref a) (.int n)):C x y:=
 dD (P:=λ x=>C x y) x (eq_true h) (λ e=>tR (P:=λ x=>C x y) x e (λ e=>dB (P:=λ x=>C x y) x e (λ e=>(bG e).elim) λ a e=>dB (P:=C (.ref a)) y e (λ e=>dD (P:=C (.ref a)) y e (λ e=>(bG e).elim) λ n e=>km a n (bG e)) λ b e=>kl a b (bG e))
  λ a e=>tR (P:=C (.str a)) y e (λ e=>(bG e).elim) λ b e=>ks a b (bG e)) λ a e=>dD (P:=C (.int a)) y e (λ e=>(bG e).elim) λ b e=>ki a b (bG e)
theorem pA(hW:W.Ok){op:Operator}{a b:Int}{t t':Tok}(rm:Rm n A)(S:SR W σ s.heap)(h:Mu op (λ v=>Q v σ) a b):wpAny W.M A (binaryOp op (.int a t) (.int b t')) (K4 W σ s Q) (λ _ _=>False) s:=match op,h with
 |.Add,h=>add_int (K4.now S (.int _ _) h ⟨_,rfl⟩)
 |.Sub,h=>sub_int (K4.now S (.int _ _) h ⟨_,rfl⟩)
 |.Mult,h=>mul_int (K4.now S (.int _ _) h.2 ⟨_,rfl⟩) (h.1.elim (λ q=>IntMulOk.of_left (IO q)) λ q=>IntMulOk.of_right (IO q))
 |.FloorDiv,h=>floordiv_int h.1 (K4.now S (.int _ _) h.2 ⟨_,rfl⟩) (Or.inr (hW.room S rm))
 |.Mod,h=>mod_int' h.1 (K4.now S (.int _ _) h.2 ⟨_,rfl⟩)
 |.BitOr,h=>or_int (K4.now S (.int _ _) h ⟨_,rfl⟩)
 |.BitAnd,h=>and_int (K4.now S (.int _ _) h ⟨_,rfl⟩)
 |.LShift,h=>lshift_int_small h.1 h.2 (LZ h.3) (K4.now S (.int _ _) h.4 ⟨_,rfl⟩)
 |.RShift,h=>rshift_int h.1 (K4.now S (.int _ _) h.2 ⟨_,rfl⟩)
theorem Cw{n m:Nat}(h:n<=2^24)(hm:2^24<=m):n<=m:=A9 h hm
theorem Kh{a:Addr}{i:Int}{t:Tok}{xs:List PV}(S:SR W σ s.heap)(ea:σ a=some (.list xs))(h0:0<=i)(h1:i<=2^24)(hl:xs.length=1)(hq:∀c,σ c=none->Q (.ref c) (σ.set c (.list ((List.replicate i.toNat xs).flatten)))):wpAny W.M A (binaryOp .Mult (.ref a) (.int i t)) (K4 W σ s Q) (λ _ _=>False) s:=by
 refine ee2.e (S.list ea) λ vs k hZ=>?_;delta hZ e1 r1
 refine A0 (List.length_eq_one_iff.mp hl) λ x hZ=>?_;clear ea hl;obtain rfl:=hZ
 obtain⟨v,rfl,ra⟩:∃v,vs=[v]∧VR s.heap x v:=by clear e1;cases r1 with|cons ra rb=>cases rb;exact⟨_,rfl,ra⟩
 have hz:i.toNat<=2^24:=Int.toNat_le.mpr h1
 refine wpAny_binaryOp_repeat_ref (T:="list") (U:="int") (by decide) ⟨_,e1,rfl⟩ (λ s'=>typeIs_int s' i t) noFill_list_mul PySem.F.fills_int_mul PySem.F.slot_int_rmul repeat_list PySem.F.slot_int_index.lookup
  (iV PySem.F.slot_int_rmul (typeIs_int s i t) PySem.F.entry_int_rmul (PySem.F.args_int_rmul_2 _ _) (int___rmul___int_list i t a _ k)
   ⟨e1,rfl,⟨_,e1,rfl⟩,iV PySem.F.slot_list_mul ⟨_,e1,rfl⟩ PySem.F.entry_list_mul (PySem.F.args_list_mul_2 _ _)
    (AutoListH.list___mul___list_int_3 a _ k i t (by simp[Builtin.List.listFitsIndex];lia) (by simp;lia) (by simp[Builtin.List.listTooLong,sizeLine];lia)) ⟨e1,?_⟩⟩)
 have e:(if([v].toArray).isEmpty=true then 0 else i.toNat)=i.toNat:=rfl
 rw[e,show([v].toArray)=#[v]from rfl,yG]
 have e2:(List.replicate i.toNat [x]).flatten=List.replicate i.toNat x:=List.flatten_replicate_singleton
 rw[e2]at hq
 exact K4.alloc (o:=.list (List.replicate i.toNat x)) S (.list ((bP.replicate ra _).V7 (.keeps (Q6 _ _))) (by rw[K8];exact Cw hz (by decide))) hq
theorem OE(hW:W.Ok){op:Operator}{x y:PV}{v u:Value}(rm:Rm n A)(S:SR W σ s.heap)(rx:VR s.heap x v)(ry:VR s.heap y u)(h:mO op σ Q x y):
  wpAny W.M A (binaryOp op v u) (K4 W σ s Q) (λ _ _=>False) s:=
 Gg (C:=λ x y=>VR s.heap x v->VR s.heap y u->wpAny W.M A (binaryOp op v u) (K4 W σ s Q) (λ _ _=>False) s) h
  (λ a b h rx ry=>rx.mG (P:=λ v=>wpAny W.M A (binaryOp op v u) (K4 W σ s Q) (λ _ _=>False) s) λ t=>ry.mG (P:=λ u=>wpAny W.M A (binaryOp op (.int a t) u) (K4 W σ s Q) (λ _ _=>False) s) λ t'=>pA hW rm S h)
  (λ a b h rx ry=>rx.qD (P:=λ v=>wpAny W.M A (binaryOp op v u) (K4 W σ s Q) (λ _ _=>False) s) λ t _=>ry.qD (P:=λ u=>wpAny W.M A (binaryOp op (.str a t) u) (K4 W σ s Q) (λ _ _=>False) s) λ t' _=>by
   obtain rfl:=h.1;delta h h h1 h2
   have hz:a.length+b.length<=sizeLine:=by rw[K0];exact Cw h1 (by decide)
   exact add_str (λ t' tk=>K4.now S (.str _ _ (by rw[R7];exact hz)) h2 ⟨_,rfl⟩) hz)
  (λ a b h rx ry=>rx.tG (P:=λ v=>wpAny W.M A (binaryOp op v u) (K4 W σ s Q) (λ _ _=>False) s)<|ry.tG (P:=λ u=>wpAny W.M A (binaryOp op (.ref a) u) (K4 W σ s Q) (λ _ _=>False) s)<|by
   obtain rfl:=h.1;refine ee2.e h.2 λ xs ys Q0=>?_;delta Q0 ea eb hz hq;try clear h
   refine ee2.e (S.list ea) λ vs k hZ=>?_;delta hZ e1 r1
   refine ee2.e (S.list eb) λ us k' hZ=>?_;delta hZ e2 r2
   refine P.add_list e1 e2 (K4.alloc (o:=.list (xs++ys)) S ?_ hq) (by rw[H1,H1,r1.length,r2.length,K0];exact Cw hz (by decide))
   rw[List.append_toArray]
   exact .list ((r1.V7 (.keeps (Q6 _ _))).append (r2.V7 (.keeps (Q6 _ _)))) (by rw[B0];exact Cw hz (by decide)))
  (λ a i h rx ry=>rx.tG (P:=λ v=>wpAny W.M A (binaryOp op v u) (K4 W σ s Q) (λ _ _=>False) s)<|ry.mG (P:=λ u=>wpAny W.M A (binaryOp op (.ref a) u) (K4 W σ s Q) (λ _ _=>False) s) λ t=>by
   obtain rfl:=h.1;refine A0 h.2 λ xs Q0=>?_;delta Q0 ea h0 h1 hl hq;try clear h
   exact Kh S ea h0 h1 hl hq) rx ry
end
section
open PySem.SeqAt (EqAt RcAt)
theorem qL{P:PV->Prop}:∀{a:PV},scalar a=true->(∀i,P (.int i))->(∀s,P (.str s))->P a
 |.int i,_,k,_=>k i
 |.str s,_,_,k=>k s
 |.none,h,_,_|.bool _,h,_,_|.tup _,h,_,_|.ref _,h,_,_|.rZ _ _,h,_,_|.M7,h,_,_=>(C5 h).elim
theorem xG{P:PV->Prop}:∀{a:PV},fA a=true->(∀i,P (.int i))->(∀s,P (.str s))->(∀xs,xs.all scalar=true->P (.tup xs))->P a
 |.int i,_,k,_,_=>k i
 |.str s,_,_,k,_=>k s
 |.tup xs,h,_,_,k=>k xs h
 |.none,h,_,_,_|.bool _,h,_,_,_|.ref _,h,_,_,_|.rZ _ _,h,_,_,_|.M7,h,_,_,_=>(C5 h).elim
theorem YY{a:PV}(h:scalar a=true):vW a a=true:=qL (P:=λ a=>vW a a=true) h (λ _=>H3 rfl) λ _=>H3 rfl
theorem tt{a b:Bool}(h:a=true)(k:b=true):(a&&b)=true:=F0.mpr ⟨h,k⟩
theorem bt{a b:Bool}(h:(a&&b)=true):a=true∧b=true:=⟨(F0.mp h).1,(F0.mp h).2⟩
theorem EZ:∀{a:List PV},a.all scalar=true->DJ a a=true
 |[],_=>rfl
 |x::r,h=>tt (YY (bt h).1) (EZ (bt h).2)
theorem BQ:∀{a b:List PV},DJ a b=((List.range (min a.length b.length)).all (λ j=>vW (a.getD j .none) (b.getD j .none))&&a.length==b.length)
 |[],[]=>rfl
 |[],_::_=>rfl
 |_::_,[]=>rfl
 |x::r,y::q=>by
  show(vW x y&&DJ r q)=_
  rw[BQ (a:=r) (b:=q)]
  simp only[H5,Nat.succ_min_succ,aG,dF,cS]
  simp[qI,Bool.and_assoc]
theorem BR:∀{a b:List PV},a.length=b.length->BS a b=(List.range a.length).all (λ j=>KC (a.getD j .none) (b.getD j .none))
 |[],[],_=>rfl
 |x::r,y::q,h=>by
  show(KC x y&&BS r q)=_
  rw[BR (a:=r) (b:=q) (by simpa using h)]
  simp only[H5,aG,dF,cS]
  simp[qI]
theorem KA:∀{a b:List PV},a.length≠b.length->BS a b=false
 |[],[],h=>by simp at h
 |[],_::_,_=>rfl
 |_::_,[],_=>rfl
 |x::r,y::q,h=>by show(KC x y&&BS r q)=false;rw[KA (a:=r) (b:=q) (by simpa using h)];exact Bool.and_false _
section
variable{W:Wd}{n:Nat}{A:Around}{s:Shared}{σ:PH}{Q:PV->PH->Prop}
theorem WC{h:Heap}{x y:PV}{v:Value}(sx:scalar x=true)(sy:scalar y=true)(a:VR h x v)(b:VR h y v):x=y:=
 qL (P:=λ x=>VR h x v->x=y) sx (λ i a=>a.mG (P:=λ v=>VR h y v->.int i=y) (λ t=>qL (P:=λ y=>VR h y (.int i t)->.int i=y) sy (λ j b=>by cases b;rfl) λ j b=>by cases b) b)
  (λ i a=>a.qD (P:=λ v=>VR h y v->.str i=y) (λ t _=>qL (P:=λ y=>VR h y (.str i t)->.str i=y) sy (λ j b=>by cases b) λ j b=>by cases b;rfl) b) a
theorem DZ{h:Heap}{xs ys:List PV}{vs:List Value}(sx:xs.all scalar=true)(sy:ys.all scalar=true)(a:bP h xs vs)(b:bP h ys vs):xs=ys:=by
 induction xs generalizing ys vs with
 |nil=>clear sy;cases a;cases b;rfl
 |cons x r ih=>
  cases a with|cons a1 a2=>cases b with|cons b1 b2=>
   simp only[dF,W2]at sx sy
   rw[WC sx.1 sy.1 a1 b1,ih sx.2 sy.2 a2 b2]
theorem lJ{x y:PV}{v u:Value}(sx:scalar x=true)(sy:scalar y=true)(a:VR s.heap x v)(b:VR s.heap y u):EqAt A s v u (vW x y):=
 qL (P:=λ x=>VR s.heap x v->EqAt A s v u (vW x y)) sx
  (λ i a=>a.mG (P:=λ v=>EqAt A s v u (vW (.int i) y)) λ t=>qL (P:=λ y=>VR s.heap y u->EqAt A s (.int i t) u (vW (.int i) y)) sy (λ j b=>b.mG (P:=λ u=>EqAt A s (.int i t) u (decide (i=j))) λ t'=>EqAt.int_int (A:=A) (s:=s) i t j t') (λ j b=>b.qD (P:=λ u=>EqAt A s (.int i t) u false) λ _ _=>EqAt.int_str _ _ _ _) b)
  (λ i a=>a.qD (P:=λ v=>EqAt A s v u (vW (.str i) y)) λ t _=>qL (P:=λ y=>VR s.heap y u->EqAt A s (.str i t) u (vW (.str i) y)) sy (λ j b=>b.mG (P:=λ u=>EqAt A s (.str i t) u false) λ _=>EqAt.str_int _ _ _ _) (λ j b=>b.qD (P:=λ u=>EqAt A s (.str i t) u (decide (i=j))) λ t' _=>EqAt.str_str (A:=A) (s:=s) i t j t') b) a
theorem bP.getElem{h:Heap}{xs:List PV}{vs:List Value}(r:bP h xs vs){j:Nat}(hj:j<vs.length):VR h (xs.getD j .none) vs[j]:=by
 have Qx:j<xs.length:=r.length▸hj
 refine A0 (r.get (C4 Qx)) λ v hZ=>?_;delta hZ e q
 rw[C4 hj]at e
 cases e
 simpa[List.getD,C4 Qx]using q
theorem uK{p:PV->Bool}{xs:List PV}(h:xs.all p=true){j:Nat}(hj:j<xs.length):p (xs.getD j .none)=true:=by
 have:xs.getD j .none=xs[j]:=by simp[List.getD,C4 hj]
 rw[this];exact G3.mp h _ (sK hj)
theorem TV{xs ys:List PV}{l l':Addr}{vs us:List Value}(hu:A.units<cLine)(sx:xs.all scalar=true)(sy:ys.all scalar=true)(ta:s.heap.IsTuple l vs.toArray)(tb:s.heap.IsTuple l' us.toArray)(ra:bP s.heap xs vs)(rb:bP s.heap ys us):EqAt A s (.ref l) (.ref l') (DJ xs ys):=by
 by_cases e:l=l'
 ·subst e
  intros ta o hZ;generalize hZ.1=ho;generalize hZ.2=P4;generalize P4.1=hc;refine A0 P4.2 λ k hd=>?_;try clear P4;try clear hZ
  intros tb o' hZ;generalize hZ.1=LE;generalize hZ.2=P4;generalize P4.1=VD;refine A0 P4.2 λ k' VC=>?_;try clear P4;try clear hZ
  clear VD;obtain rfl:o=o':=G8 (ho.symm.trans LE)
  have:vs=us:=C7 Array.toList (Data.seq.inj (hd.symm.trans VC)).1
  clear VC;subst this
  rw[DZ sx sy ra rb,EZ sy]
  exact EqAt.same _
 ·refine EqAt.of_refs e ?_
  have:=RcAt.tuples (A:=A) (s:=s) (e:=λ j=>vW (xs.getD j .none) (ys.getD j .none)) ta tb hu λ j h1 h2=>
   lJ (uK sx (ra.length▸h1)) (uK sy (rb.length▸h2)) (ra.getElem h1) (rb.getElem h2)
  rw[BQ,<-ra.length,<-rb.length]
  exact this
theorem vY{x y:PV}{v u:Value}(hu:A.units<cLine)(sx:fA x=true)(sy:fA y=true)(a:VR s.heap x v)(b:VR s.heap y u):EqAt A s v u (KC x y):=
 xG (P:=λ x=>VR s.heap x v->EqAt A s v u (KC x y)) sx
  (λ i a=>xG (P:=λ y=>VR s.heap y u->EqAt A s v u (KC (.int i) y)) sy (λ j b=>lJ (y:=.int j) rfl rfl a b) (λ j b=>lJ (y:=.str j) rfl rfl a b) (λ ys sy b=>a.mG (P:=λ v=>EqAt A s v u false) λ t=>b.xN (P:=λ u=>EqAt A s (.int i t) u false) λ _ _ tb _ _=>EqAt.int_tuple _ _ tb hu) b)
  (λ i a=>xG (P:=λ y=>VR s.heap y u->EqAt A s v u (KC (.str i) y)) sy (λ j b=>lJ (y:=.int j) rfl rfl a b) (λ j b=>lJ (y:=.str j) rfl rfl a b) (λ ys sy b=>a.qD (P:=λ v=>EqAt A s v u false) λ t _=>b.xN (P:=λ u=>EqAt A s (.str i t) u false) λ _ _ tb _ _=>EqAt.str_tuple _ _ tb hu) b)
  (λ xs sx a=>xG (P:=λ y=>VR s.heap y u->EqAt A s v u (KC (.tup xs) y)) sy (λ j b=>a.xN (P:=λ v=>EqAt A s v u false) λ _ _ ta _ _=>b.mG (P:=λ u=>EqAt A s _ u false) λ _=>EqAt.tuple_int _ _ ta hu)
   (λ j b=>a.xN (P:=λ v=>EqAt A s v u false) λ _ _ ta _ _=>b.qD (P:=λ u=>EqAt A s _ u false) λ _ _=>EqAt.tuple_str _ _ ta hu)
   (λ ys sy b=>a.xN (P:=λ v=>EqAt A s v u (DJ xs ys)) λ _ _ ta ra _=>b.xN (P:=λ u=>EqAt A s _ u (DJ xs ys)) λ _ _ tb rb _=>TV hu sx sy ta tb ra rb) b) a
theorem Q3{h:Heap}{a:Addr}{vs:List Value}{k:Nat}(e:h.get? a=some ⟨.type "list",none,.seq vs.toArray k,#[]⟩):h.IsList a vs.toArray:=⟨_,e,rfl,k,rfl⟩
theorem bP.mem{h:Heap}{xs:List PV}{vs:List Value}(r:bP h xs vs){v:Value}(m:v∈vs):∃x∈xs,VR h x v:=by
 induction xs generalizing vs with
 |nil=>cases r;cases m
 |cons x q ih=>
  cases r with|cons a b=>
   rcases F8.mp m with rfl|m
   ·exact⟨x,.head _,a⟩
   ·refine A0 (ih b m) λ y hZ=>?_;delta hZ hy z;exact⟨y,.tail _ hy,z⟩
theorem SM{h:Heap}{a:Addr}{vs us:List Value}(x:h.IsTuple a vs.toArray)(y:h.IsTuple a us.toArray):vs=us:=by
 intros x o hZ;generalize hZ.1=ho;generalize hZ.2=P4;generalize P4.1=hc;refine A0 P4.2 λ k hd=>?_;try clear P4;try clear hZ
 intros y o' hZ;generalize hZ.1=LE;generalize hZ.2=P4;generalize P4.1=VD;refine A0 P4.2 λ k' VC=>?_;try clear P4;try clear hZ
 rw[ho]at LE;clear VD;cases LE
 rw[hd]at VC
 simpa using(Data.seq.inj VC).1
theorem YH{h:Heap}{x y:PV}{v:Value}(sx:fA x=true)(sy:fA y=true)(a:VR h x v)(b:VR h y v):x=y:=
 xG (P:=λ x=>VR h x v->x=y) sx
  (λ i a=>a.mG (P:=λ v=>VR h y v->.int i=y) (λ t=>xG (P:=λ y=>VR h y (.int i t)->.int i=y) sy (λ j b=>by cases b;rfl) (λ j b=>by cases b) λ _ _ b=>by cases b) b)
  (λ i a=>a.qD (P:=λ v=>VR h y v->.str i=y) (λ t _=>xG (P:=λ y=>VR h y (.str i t)->.str i=y) sy (λ j b=>by cases b) (λ j b=>by cases b;rfl) λ _ _ b=>by cases b) b)
  (λ xs sx a=>a.xN (P:=λ v=>VR h y v->.tup xs=y) (λ l vs ta ra _=>xG (P:=λ y=>VR h y (.ref l)->.tup xs=y) sy (λ j b=>by cases b) (λ j b=>by cases b) λ ys sy b=>by cases b with|tup tb rb _=>cases SM ta tb;rw[DZ sx sy ra rb]) b) a
open Classical in
def vX(h:Heap)(x:PV)(xs:List PV):Value->Bool:=λ v=>if hv:∃y∈xs,VR h y v then KC hv.choose x else false
theorem zA{h:Heap}{x:PV}{xs:List PV}(fx:xs.all fA=true){y:PV}{v:Value}(hy:y∈xs)(r:VR h y v):vX h x xs v=KC y x:=by
 have e:∃y∈xs,VR h y v:=⟨y,hy,r⟩
 unfold vX
 rw[dif_pos e]
 have hZ:=e.choose_spec;delta hZ h1 h2
 rw[YH (G3.mp fx _ h1) (G3.mp fx _ hy) h2 r]
theorem Am{h:Heap}{x:PV}{xs:List PV}{vs:List Value}(fx:xs.all fA=true)(r:bP h xs vs):vs.any (vX h x xs)=xs.any λ y=>KC y x:=by
 have gen:∀(zs:List PV) (us:List Value),bP h zs us->(∀z∈zs,z∈xs)->us.any (vX h x xs)=zs.any λ y=>KC y x:=by
  intro zs
  induction zs with
  |nil=>intro us r _;cases r;rfl
  |cons z q ih=>
   intro us r hs
   cases r with|cons a b=>
    simp only[List.any_cons]
    rw[zA fx (hs z (.head _)) a,ih _ b λ w hw=>hs w (.tail _ hw)]
 exact gen xs vs r λ _ h=>h
end
end
section
open PySem.SeqAt (EqAt RcAt RcNeAt)
section
variable{W:Wd}{n:Nat}{A:Around}{s:Shared}{σ:PH}{Q:PV->PH->Prop}
theorem Rm.in1(rm:Rm n A):A.in1.units+700<PySem.cLine:=by have:=rm.cLine;show A.units+1+700<_;lia
theorem Rm.u(rm:Rm n A):A.units<PySem.cLine:=by have:=rm.cLine;lia
theorem Wd.Ok.vQ(hW:W.Ok)(S:SR W σ s.heap){a:Addr}{o:PO}(e:σ a=some o):(a==sysModules)=false:=by
 refine A0 (hW.Vn) λ o' h=>?_
 refine O0.mpr ?_
 rintro rfl
 have:=S.new _ (by rw[e];simp)
 rw[h]at this;cases this
theorem fV{K:Type}[DecidableEq K]{f:K->PK}(inj:∀a b,f a=f b->a=b){h:Heap}{es:List (PK×PV)}{q:List (K×Value)}(x:KV f h es q)(k:K):
  (es.lookup (f k)=none∧valueAt q k=none)∨∃y v,es.lookup (f k)=some y∧valueAt q k=some v∧VR h y v:=by
 induction x with
 |nil=>exact .inl ⟨rfl,rfl⟩
 |@cons k' y v r q' a b ih=>
  by_cases e:k=k'
  ·subst e
   exact .inr ⟨y,v,by simp,by simp[valueAt],a⟩
  ·have e1:(f k==f k')=false:=O0.mpr λ z=>e (inj _ _ z)
   have e2:decide (k'=k)=false:=J8 λ z=>e z.symm
   rw[I1,e1]
   have:valueAt ((k',v)::q') k=valueAt q' k:=by simp[valueAt,e2]
   rw[this];exact ih
theorem tX{K:Type}{f:K->PK}{h:Heap}{es:List (PK×PV)}{q:List (K×Value)}(x:KV f h es q){k:PK}(hk:∀j,f j≠k):es.lookup k=none:=by
 induction x with
 |nil=>rfl
 |@cons k' y v r q' a b ih=>
  rw[I1,show(k==f k')=false from O0.mpr λ z=>hk k' z.symm]
  exact ih
theorem mI{h:Heap}{es:List (PK×PV)}{q:List (List Int×Addr×Value)}(x:KT W h es q)(k:List Int):
  (es.lookup (.bN k)=none∧atKey q k=none)∨∃y a v,es.lookup (.bN k)=some y∧atKey q k=some (a,v)∧VR h y v:=by
 induction x with
 |nil=>exact .inl ⟨rfl,rfl⟩
 |@cons k' y a v r q' a1 b ih Wm=>
  by_cases e:k=k'
  ·clear a1;subst e
   exact .inr ⟨y,a,v,by simp,by simp[atKey],b⟩
  ·have e1:(PK.bN k==PK.bN k')=false:=O0.mpr λ z=>e (by clear a1;injection z)
   have e2:decide (k'=k)=false:=J8 λ z=>e z.symm
   rw[I1,e1]
   have:atKey ((k',a,v)::q') k=atKey q' k:=by simp[atKey,e2]
   rw[this];exact Wm
theorem DF{h:Heap}{es:List (PK×PV)}{q:List (List Int×Addr×Value)}(x:KT W h es q){k:PK}(hk:∀j,.bN j≠k):es.lookup k=none:=by
 induction x with
 |nil=>rfl
 |@cons k' y a v r q' a1 b ih Wm=>
  rw[I1,show(k==PK.bN k')=false from O0.mpr λ z=>hk k' z.symm]
  exact Wm
theorem KT.keys{h:Heap}{es:List (PK×PV)}{q:List (List Int×Addr×Value)}(x:KT W h es q):∀y∈q,W.tk.is h y.1 y.2.1:=by
 induction x with
 |nil=>intro y hy;cases hy
 |cons a b _ ih=>intro y hy;rcases F8.mp hy with rfl|hy;exact a.1;exact ih y hy
inductive OP(W:Wd)(h:Heap):PK->Value->Prop
 |int (i:Int) (t:Tok):OP W h (.int i) (.int i t)
 |str (s:Str) (t:Tok):OP W h (.str s) (.str s t)
 |bN {l:List Int} {a:Addr}:IsTupleKey W.ik h l a->l.length<=2^25->OP W h (.bN l) (.ref a)
theorem JR{h:Heap}{l:List Int}{vs:List Value}(r:bP h (l.map .int) vs):ItemsAre W.ik l vs:=by
 induction l generalizing vs with
 |nil=>cases r;exact .nil
 |cons i q ih=>
  cases r with|cons a b=>cases a;exact .cons (by simp[intKind,Value.isInt]) (ih b)
theorem yV{h:Heap}{x:PV}{v:Value}{k:PK}(r:VR h x v)(e:keyOf x=some k):OP W h k v:=by
 cases r with
 |int i t=>cases e;exact .int i t
 |str x t _=>cases e;exact .str x t
 |tup t r z=>
  refine A0 (O3.mp e) λ l hZ=>?_;generalize hZ.1=e1;clear e;obtain rfl:=hZ.2;try clear hZ
  have:=TH e1
  clear e1;subst this
  intros t o hZ;generalize hZ.1=ho;generalize hZ.2=P4;generalize P4.1=hc;refine A0 P4.2 λ k hd=>?_;try clear P4;try clear hZ
  exact .bN ⟨o,_,k,ho,hc,hd,by simpa using JR r⟩ (by simpa using z)
 |_=>cases e
theorem EW(i:Int)(t:Tok):W.ik.is i (.int i t)=true:=by simp[intKind,Value.isInt]
theorem PJ(x:Str)(t:Tok):W.sk.is x (.str x t)=true:=by simp[PySem.strKind,Value.isStrOf]
theorem lK{h:Heap}{a:Addr}{n:Nat}{ds:Array DictEntry}{kvs:List (Int×Value)}(e:h.get? a=some ⟨.type "dict",none,.dict ds n,#[]⟩)(b:KeysOf W.ik ds)(c:Pairs W.ik ds.toList kvs)(d:(kvs.map (·.1)).Nodup):h.DictOf W.ik a kvs:=
 ⟨_,ds,n,e,⟨rfl,rfl,rfl⟩,rfl,b,c,d⟩
theorem uE{h:Heap}{a:Addr}{n:Nat}{ds:Array DictEntry}{kvs:List (Str×Value)}(e:h.get? a=some ⟨.type "dict",none,.dict ds n,#[]⟩)(b:KeysOf W.sk ds)(c:Pairs W.sk ds.toList kvs)(d:(kvs.map (·.1)).Nodup):h.DictOf W.sk a kvs:=
 ⟨_,ds,n,e,⟨rfl,rfl,rfl⟩,rfl,b,c,d⟩
theorem pD{h:Heap}{a:Addr}{n:Nat}{ds:Array DictEntry}{es:List (PK×PV)}{xs:List (List Int×Addr×Value)}(e:h.get? a=some ⟨.type "dict",none,.dict ds n,#[]⟩)(b:KT W h es xs)(c:ds.toList=xs.map (entryOfKey W.tk))(d:(xs.map (·.1)).Nodup):h.DictOfH W.tk a xs:=
 ⟨_,ds,n,e,⟨rfl,rfl,rfl⟩,rfl,c,b.keys,d⟩
theorem SR.dict{σ:PH}{h:Heap}(S:SR W σ h){a:Addr}{es:List (PK×PV)}{n:Nat}(e:σ a=some (.dict es n)):∃ob,h.get? a=some ob∧DR W h n es ob:=by
 refine A0 (S.obj a _ e) λ ob hZ=>?_;delta hZ e1 r
 cases r with|dict r=>exact⟨ob,e1,r⟩
set_option tactic.hygienic true in
theorem HG{a:Addr}{es:List (PK×PV)}{ep:Nat}{k:PK}{v:Value}{x:PV}(rm:Rm n A)(S:SR W σ s.heap)(e:σ a=some (.dict es ep))(kr:OP W s.heap k v)(hx:es.lookup k=some x)(q:Q x σ):
  wpAny W.M A (getItem (.ref a) v) (K4 W σ s Q) (λ _ _=>False) s:=by
 refine A0 (S.dict e) λ ob hZ=>?_;delta hZ e1 r
 cases r with
 |i kv b c d=>
  cases kr with
  |int i t=>
   rcases fV (λ _ _ z=>by injection z) kv i with⟨z,_⟩|⟨y,u,z,z2,r⟩
   ·rw[hx]at z;cases z
   ·rw[hx]at z;cases z
    exact wpAny_getItem_of (EW i t) (lK e1 b c d).mapOf z2 (K4.now S r q ⟨_,rfl⟩)
  |_=>rw[tX kv (by intro j z;cases z)]at hx;cases hx
 |s kv b c d=>
  cases kr with
  |str i t=>
   rcases fV (λ _ _ z=>by injection z) kv i with⟨z,_⟩|⟨y,u,z,z2,r⟩
   ·rw[hx]at z;cases z
   ·rw[hx]at z;cases z
    exact wpAny_getItem_of (PJ i t) (uE e1 b c d).mapOf z2 (K4.now S r q ⟨_,rfl⟩)
  |_=>rw[tX kv (by intro j z;cases z)]at hx;cases hx
 |t kt c d=>
  cases kr with
  |bN tk tz=>
   rename_i l a'
   rcases mI kt l with⟨z,_⟩|⟨y,a2,u,z,z2,r⟩
   ·rw[hx]at z;cases z
   ·rw[hx]at z;cases z
    exact wpAny_getItem_heap (knd:=W.tk) (iU (by have:=rm.cLine;lia)) tk (pD e1 kt c d) z2 (K4.now S r q ⟨_,rfl⟩)
  |_=>rw[DF kt (by intro j z;cases z)]at hx;cases hx
theorem QB{P:Prop}{xs:List PV}{i:Int}{z:PV}(h:xQ xs i=some z)(k1:∀j:Nat,i=j->j<xs.length->xs[j]? =some z->P)(k2:∀j:Nat,i<0->(xs.length:Int)+i=j->j<xs.length->xs[j]? =some z->P):P:=by
 have lt:∀{j:Nat},xs[j]? =some z->j<xs.length:=λ e=>(D3.mp e).1
 unfold xQ at h
 by_cases c:0<=i
 ·rw[F7 c]at h
  exact k1 i.toNat (Int.toNat_of_nonneg c).symm (lt h) h
 ·rw[G0 c]at h
  by_cases d:0<=(xs.length:Int)+i
  ·rw[F7 d]at h
   exact k2 ((xs.length:Int)+i).toNat (Int.not_le.mp c) (Int.toNat_of_nonneg d).symm (lt h) h
  ·rw[G0 d]at h;cases h
theorem no{α:Type}{x:α}{P:Prop}(h:none=some x):P:=by cases h
theorem PG{C:PV->PV->Prop}{x y z:PV}(h:gE σ x y=some z)(kl:∀a xs i,σ a=some (.list xs)->xQ xs i=some z->C (.ref a) (.int i))(kd:∀a es ep k,σ a=some (.dict es ep)->keyOf y=some k->es.lookup k=some z->C (.ref a) y)(kt:∀xs i,xQ xs i=some z->C (.tup xs) (.int i)):C x y:=
 dB (P:=λ x=>C x y) x h (λ h=>AR (P:=λ x=>C x y) x h no λ xs h=>dD (P:=C (.tup xs)) y h no λ i h=>kt xs i h) λ a h=>
  lE (P:=λ o=>σ a=o->C (.ref a) y) (σ a) h (λ h e=>dC (P:=λ o=>σ a=o->C (.ref a) y) (σ a) h no (λ xs h e=>dD (P:=C (.ref a)) y h no λ i h=>kl a xs i e h) e)
   (λ es ep h e=>let⟨k,e2,e3⟩:=gJ.mp h;kd a es ep k e e2 e3) rfl
theorem WA{j n:Nat}{i:Int}(h:j<n)(hi:(if i<0 then i+n else i)=j):seqIndex? i n=some j:=by
 show(if(decide (0<=(if i<0 then i+n else i))&&decide ((if i<0 then i+n else i)<(n:Int)))=true then some (if i<0 then i+n else i).toNat else none)=_
 rw[hi,H3 (G6 j),H3 (T7.mpr h)];rfl
theorem NL{x y z:PV}{v u:Value}(rm:Rm n A)(S:SR W σ s.heap)(rx:VR s.heap x v)(ry:VR s.heap y u)(h:gE σ x y=some z)(q:Q z σ):
  wpAny W.M A (getItem v u) (K4 W σ s Q) (λ _ _=>False) s:=
 PG (C:=λ x y=>VR s.heap x v->VR s.heap y u->wpAny W.M A (getItem v u) (K4 W σ s Q) (λ _ _=>False) s) h
  (λ a xs i e h rx ry=>rx.tG (P:=λ v=>wpAny W.M A (getItem v u) (K4 W σ s Q) (λ _ _=>False) s)<|ry.mG (P:=λ u=>wpAny W.M A (getItem (.ref a) u) (K4 W σ s Q) (λ _ _=>False) s) λ t=>by
   refine ee2.e (S.list e) λ vs k hZ=>?_;delta hZ e1 r1 b1
   have l1:=r1.length
   refine QB h (λ j ej lt hz=>?_) λ j Wg ej lt hz=>?_
   ·clear h ry;subst ej
    refine A0 (r1.get hz) λ v hZ=>?_;delta hZ e2 r2
    exact wpAny_getItem_list (Q3 e1) (G6 j) (by lia) (by rw[dG];exact e2) (K4.now S r2 q ⟨_,rfl⟩)
   ·refine A0 (r1.get hz) λ v hZ=>?_;delta hZ e2 r2
    exact wpAny_getItem_list_neg (Q3 e1) Wg (by rw[H1];lia) (by lia) (by
     rw[H1,l1,dG,Int.add_comm,ej];exact e2) (K4.now S r2 q ⟨_,rfl⟩))
  (λ a es ep k e e2 e3 rx ry=>rx.tG (P:=λ v=>wpAny W.M A (getItem v u) (K4 W σ s Q) (λ _ _=>False) s) (HG rm S e (yV ry e2) e3 q))
  (λ xs i h rx ry=>rx.xN (P:=λ v=>wpAny W.M A (getItem v u) (K4 W σ s Q) (λ _ _=>False) s) λ a vs t r1 zz=>ry.mG (P:=λ u=>wpAny W.M A (getItem (.ref a) u) (K4 W σ s Q) (λ _ _=>False) s) λ tk=>by
   have l1:=r1.length
   refine QB h (λ j ej lt hz=>?_) λ j Wg ej lt hz=>?_
   ·clear h ry;subst ej
    refine A0 (r1.get hz) λ v hZ=>?_;delta hZ e2 r2
    exact getItem_tuple t (by lia) (by lia) (j:=j) (WA (by rw[H1,l1];exact lt) (G0 (Int.not_lt.mpr (G6 j)))) (by rw[dG];exact e2) (K4.now S r2 q ⟨_,rfl⟩)
   ·refine A0 (r1.get hz) λ v hZ=>?_;delta hZ e2 r2
    exact getItem_tuple t (by lia) (by lia) (j:=j) (WA (by rw[H1,l1];exact lt) (by rw[F7 Wg,H1,l1,Int.add_comm,ej])) (by rw[dG];exact e2) (K4.now S r2 q ⟨_,rfl⟩)) rx ry
end
end
section
open PySem.SeqAt (EqAt RcAt RcNeAt)
theorem tT{f g:String}(h:Str.ofString f=Str.ofString g):f=g:=by
 rw[Str.ofString_eq_toList,Str.ofString_eq_toList]at h
 have h2:f.toList.map Char.toNat=g.toList.map Char.toNat:=by
  have:=C7 Str.cps h
  simpa using this
 have inj:Function.Injective Char.toNat:=λ a b e=>by
  apply Char.ext;apply UInt32.toNat_inj.mp;exact e
 have:f.toList=g.toList:=(List.map_inj_right (λ a b e=>inj e)).mp h2
 exact String.toList_injective this
theorem xB(f:String)(y:PV):∀fs:List (String×PV),(lU f y fs).length<=fs.length+1
 |[]=>D7 _
 |(g,z)::r=>by have:=xB f y r;show(if g=f then(f,y)::r else(g,z)::lU f y r).length<=_;split<;>simp only[H5]<;>lia
section
variable{W:Wd}{n:Nat}{A:Around}{s:Shared}{σ:PH}{Q:PV->PH->Prop}
theorem aJ.find{h:Heap}{C:Addr}{fs:List (String×PV)}{es:List DictEntry}(x:aJ W h C fs es)(f:String):
  (fs.lookup f=none∧es.find? (·.key.isStr (Str.ofString f))=none)∨∃y e,fs.lookup f=some y∧es.find? (·.key.isStr (Str.ofString f))=some e∧VR h y e.val∧xM W.K C (Str.ofString f):=by
 induction x with
 |nil=>exact .inl ⟨rfl,rfl⟩
 |@cons g y e fs es hk hv hf _ ih=>
  intros hk t hk
  by_cases q:f=g
  ·subst q
   exact .inr ⟨y,e,List.lookup_cons_self,List.find?_cons_of_pos (by rw[hk];exact O2 _),hv,hf⟩
  ·have q1:(f==g)=false:=O0.mpr q
   have q2:e.key.isStr (Str.ofString f)=false:=by
    rw[hk];exact O0.mpr λ z=>q (tT z.symm)
   rw[I1,q1,List.find?_cons,q2]
   exact ih
theorem aJ.noRef{h:Heap}{C:Addr}{fs:List (String×PV)}{es:List DictEntry}(x:aJ W h C fs es):es.any (·.refKey)=false:=by
 induction x with
 |nil=>rfl
 |cons hk _ _ _ ih=>intros hk t hk;rw[List.any_cons,ih];simp[DictEntry.refKey,hk]
theorem aJ.length{h:Heap}{C:Addr}{fs:List (String×PV)}{es:List DictEntry}(x:aJ W h C fs es):es.length=fs.length:=by
 induction x with
 |nil=>rfl
 |cons _ _ _ _ ih=>simp[ih]
theorem aJ.getL{h:Heap}{C:Addr}{fs:List (String×PV)}{es:List DictEntry}(x:aJ W h C fs es)(f:String):
  (fs.lookup f=none∧PySem.W.getL (Str.ofString f) es=some none)∨∃y v,fs.lookup f=some y∧PySem.W.getL (Str.ofString f) es=some (some v)∧VR h y v∧xM W.K C (Str.ofString f):=by
 rcases x.find f with⟨a,b⟩|⟨y,e,a,b,c,d⟩
 ·refine .inl ⟨a,?_⟩
  unfold PySem.W.getL;rw[b,x.noRef];rfl
 ·refine .inr ⟨y,e.val,a,?_,c,d⟩
  unfold PySem.W.getL;rw[b]
theorem aJ.put{h:Heap}{C:Addr}{fs:List (String×PV)}{es:List DictEntry}(x:aJ W h C fs es){f:String}{y:PV}{v:Value}(hk:xM W.K C (Str.ofString f))(r:VR h y v)(Zz:Int)(t:Tok):
  aJ W h C (lU f y fs) (putL (Str.ofString f) Zz (.str (Str.ofString f) t) v es):=by
 induction x with
 |nil=>exact .cons ⟨t,rfl⟩ r hk .nil
 |@cons g z e fs es TK hv hf hr ih=>
  intros TK t' TK
  by_cases q:g=f
  ·clear ih hk;subst q
   have q2:e.key.isStr (Str.ofString g)=true:=by rw[TK];exact O2 _
   show aJ W h C (if g=g then(g,y)::fs else _) (if e.key.isStr (Str.ofString g)=true then⟨e.hash,e.key,v⟩::es else _)
   rw[F7 rfl,F7 q2]
   exact .cons ⟨t',TK⟩ r hf hr
  ·have q2:e.key.isStr (Str.ofString f)=false:=by
    rw[TK];exact O0.mpr λ z=>q (tT z)
   show aJ W h C (if g=f then _ else(g,z)::lU f y fs) (if e.key.isStr (Str.ofString f)=true then _ else e::putL (Str.ofString f) Zz (.str (Str.ofString f) t) v es)
   rw[G0 q,G0 (by rw[q2];exact C5)]
   exact .cons ⟨t',TK⟩ hv hf ih
theorem SR.inst{σ:PH}{h:Heap}(S:SR W σ h){a C dx:Addr}{fs:List (String×PV)}(e:σ a=some (.inst C dx))(e':σ dx=some (.attrs C fs)):
  ∃es k,aJ W h C fs es∧h.get? dx=some (dictOf es k)∧InstAt h a ⟨.ref C,some dx,.plain,#[]⟩ C (some (dictOf es k)):=by
 refine A0 (S.obj a _ e) λ ob hZ=>?_;delta hZ e1 r
 refine A0 (S.obj dx _ e') λ od hZ=>?_;delta hZ e2 r2
 cases r with|inst=>
  cases r2 with|@attrs _ _ es k r2=>exact⟨es,k,r2,e2,⟨e1,rfl,rfl,e2⟩⟩
theorem VR.handed{h:Heap}{x:PV}{v:Value}(r:VR h x v):handedIn v=true:=by cases r<;>rfl
theorem xM.find{h:Heap}{K:Frag}{C:Addr}{name:Str}(k:xM K C name){es:List DictEntry}{n:Nat}{v:Value}(e:PySem.W.getL name es=some (some v)):findObj K C (some (dictOf es n)) name=some (.value v):=by
 have hd:=k.dict
 unfold hasDictIn at hd
 refine A0 (any_some hd) λ cd hZ=>?_;delta hZ hc hd
 unfold findObj
 rw[hc,k.no]
 simp -iota only[Option.bind_some]
 unfold PySem.W.ownOf
 rw[hd]
 show(lookIn name (dictOf es n)).bind _=_
 rw[lookIn_dict,e];rfl
theorem VA{α:Type}{p:Prop}[Decidable p]{o:Option α}{y:α}(h:(if p then o else none)=some y):p∧o=some y:=by
 by_cases c:p
 ·rw[F7 c]at h;exact⟨c,h⟩
 ·rw[G0 c]at h;cases h
theorem YG{C:PV->Prop}{x y:PV}{f:String}(h:fld σ x f=some y)(k:∀a D dx fs,σ a=some (.inst D dx)->σ dx=some (.attrs D fs)->fs.lookup f=some y->C (.ref a)):C x:=
 dB x h no λ a h=>AT (P:=λ o=>σ a=o->C (.ref a)) (σ a) h no (λ D dx h e=>AU (P:=λ o=>σ dx=o->C (.ref a)) (σ dx) h no (λ D' fs h e'=>k a D dx fs e ((VA h).1▸e') (VA h).2) rfl) rfl
theorem NM(hW:W.Ok){x y:PV}{v:Value}{f:String}{b:Bool}(S:SR W σ s.heap)(rx:VR s.heap x v)(h:fld σ x f=some y)(q:Q y σ):
  wpAny W.M A (getAttr v (Str.ofString f) b) (K4 W σ s Q) (λ _ _=>False) s:=
 YG (C:=λ x=>VR s.heap x v->wpAny W.M A (getAttr v (Str.ofString f) b) (K4 W σ s Q) (λ _ _=>False) s) h (λ a D dx fs e e' h rx=>rx.tG (P:=λ v=>wpAny W.M A (getAttr v (Str.ofString f) b) (K4 W σ s Q) (λ _ _=>False) s)<|by
  refine ee2.e (S.inst e e') λ es k hZ=>?_;delta hZ r e1 I
  rcases r.getL f with⟨z,_⟩|⟨y',v,z,z2,r2,k2⟩
  ·exact no (z.symm.trans h)
  ·obtain rfl:y'=y:=G8 (z.symm.trans h)
   exact get_value (hW.ID.keeps S.keep) I k2.ga (k2.find (h:=s.heap) z2) r2.handed (K4.now S r2 q ⟨_,rfl⟩)) rx
theorem MC(hW:W.Ok){a C dx:Addr}{y:PV}{v:Value}{f:String}{fs:List (String×PV)}{R:Unit->Shared->Prop}(S:SR W σ s.heap)(e:σ a=some (.inst C dx))(e':σ dx=some (.attrs C fs))
  (k:xM W.K C (Str.ofString f))(hz:fs.length<=100)(r:VR s.heap y v)
  (q:∀h' tk,SR W (σ.set dx (.attrs C (lU f y fs))) h'->kC σ s.heap (σ.set dx (.attrs C (lU f y fs))) h'->R () {s with heap:=h',toks:=tk}):
  wpAny W.M A (setAttr (.ref a) (Str.ofString f) v) R (λ _ _=>False) s:=by
 refine ee2.e (S.inst e e') λ es n hZ=>?_;delta hZ ra e1 I
 have X:=hW.ID.keeps S.keep
 have hl:=ra.length
 refine set_plain X I k.sa (osa_open (s:={s with toks:=s.toks+1}) (r:=none) X I k.over (by unfold takerIn;rw[k.no];rfl) λ b=>?_)
 have hd:=k.dict
 unfold hasDictIn at hd
 refine A0 (any_some hd) λ cd hZ=>?_;delta hZ hc hd
 have P:=putName_dict (Str.ofString f) (PyData.keyHash W.w.params (Str.ofString f)) (.str (Str.ofString f) (s.toks+1)) v es n
 have Zi:=ra.put k r (PyData.keyHash W.w.params (Str.ofString f)) (s.toks+1)
 have d0:=Zi.length
 have hp:=xB f y fs
 have D':(s.heap.update dx (Obj.putName (Str.ofString f) (PyData.keyHash W.w.params (Str.ofString f)) (.str (Str.ofString f) (s.toks+1)) v)).get? dx=some (dictOf (putL (Str.ofString f) (PyData.keyHash W.w.params (Str.ofString f)) (.str (Str.ofString f) (s.toks+1)) v es) (putN (Str.ofString f) es n)):=by
  rw[Heap.get?_update_self _ e1 (by rw[P];rfl),P]
 have hZ:=S.upd e' (cX s.heap dx _) D' (.attrs Zi);delta hZ S' x'
 refine B6 (D4 (B6 (B6 (wpAny_loadPart I.at_ (B6 (looks_clsIn X hc _ _ _ _ (λ _ _ e=>e) ?_))))))
 rw[hd]
 refine D4 (a:=some dx) (B6 (D4 (B6 ?_)))
 unfold nsSet
 refine B6 (B6 (wpAny_askSetting (D4 (B6 (wpAny_mkText (B6 (wpAny_loadPart e1 ?_)))))))
 have c:(!es.toArray.any (·.key.isStr (Str.ofString f))&&es.toArray.any (·.refKey))=false:=by
  simp[ra.noRef]
 dsimp only
 rw[aRefKeyMayBeTheName_at,c]
 refine wpAny_updatePart e1 ?_
 refine B6 (wpAny_lookBehind D' (pastItsLine_dict (by rw[H1,K0];lia)) ?_)
 exact D4 (q _ _ S' x')
end
end
section
open PySem.SeqAt (EqAt RcAt RcNeAt)
theorem Il(i:Int)(n:Nat)(h:0<=i):(if(1:Int)>0 then max 0 (min (if i<0 then i+n else i) (n:Int))else max (-1) (min (if i<0 then i+n else i) ((n:Int) - 1)))=((min i.toNat n:Nat):Int):=by
 refine A0 (cC h) λ k hZ=>?_;obtain rfl:=hZ
 rw[F7 Int.zero_lt_one,G0 (Int.not_lt.mpr h),bA]
 rcases Nat.le_total k n with g|g
 ·rw[Int.min_eq_left (Int.ofNat_le.mpr g),fY g];exact Int.max_eq_right h
 ·rw[Int.min_eq_right (Int.ofNat_le.mpr g),Nat.min_eq_right g];exact Int.max_eq_right (G6 n)
theorem UO(lo hi:Option Int)(n:Nat)(hl:DB lo=true)(hh:DB hi=true):sliceBounds lo hi none n=(((min (Qi lo) n:Nat):Int),((min (Qz hi n) n:Nat):Int),1):=by
 have h1:(sliceBounds lo none none n).1=((min (Qi lo) n:Nat):Int):=match lo,hl with
  |none,_=>C7 Int.ofNat (Nat.zero_min n).symm
  |some i,h=>Il i n (D0 h).1
 have h2:(sliceBounds none hi none n).2.1=((min (Qz hi n) n:Nat):Int):=match hi,hh with
  |none,_=>C7 Int.ofNat (Nat.min_self n).symm
  |some i,h=>Il i n (D0 h).1
 exact congr (C7 Prod.mk h1) (congr (C7 Prod.mk h2) rfl)
theorem GD(vs:List Value)(lo hi:Option Int)(hl:DB lo=true)(hh:DB hi=true):slicePick vs.toArray lo hi none=(fE vs lo hi).toArray:=by
 have e:=UO lo hi vs.length hl hh
 unfold slicePick fE
 rw[H1,e]
 generalize Qi lo=a
 generalize Qz hi vs.length=b
 show((sliceRange ((min a vs.length:Nat):Int) ((min b vs.length:Nat):Int) 1).filterMap (vs.toArray[·]?)).toArray=_
 have r:sliceRange ((min a vs.length:Nat):Int) ((min b vs.length:Nat):Int) 1=(List.range (min b vs.length - min a vs.length)).map (min a vs.length+·):=by
  have key:∀x y:Nat,sliceRange (x:Int) (y:Int) 1=(List.range (y - x)).map (x+·):=λ x y=>by
   show(List.range (Int.toNat (if(1:Int)>0 then(if(x:Int)<y then((y:Int) - x+1 - 1)/1 else 0)else _))).map (λ k:Nat=>((x:Int)+1*(k:Int)).toNat)=_
   rw[F7 Int.zero_lt_one,show(λ k:Nat=>((x:Int)+1*(k:Int)).toNat)=(x+·)from funext λ k=>by rw[Int.one_mul];rfl]
   congr 2
   by_cases c:x<y
   ·rw[F7 (T7.mpr c),Int.ediv_one,Int.add_sub_cancel,<-Int.ofNat_sub (M8 c)];rfl
   ·rw[G0 (λ h=>c (T7.mp h)),jD (jO c)];rfl
  exact key _ _
 rw[r,pick_run]
 congr 1
 show(vs.drop (min a vs.length)).take _=(vs.take b).drop a
 rw[List.drop_take]
 by_cases c:a<=vs.length
 ·rw[fY c]
  by_cases d:b<=vs.length
  ·rw[fY d]
  ·have d:=Nat.le_of_not_le d
   rw[Nat.min_eq_right d,iA (X0 (U7 ..)),iA (by rw[U7];exact Nat.sub_le_sub_right d a)]
 ·have c:=Nat.le_of_not_le c
  rw[Nat.min_eq_right c,List.drop_length,List.drop_of_length_le c,List.take_nil,List.take_nil]
end
section
open PySem.SeqAt (EqAt RcAt RcNeAt)
section
variable{W:Wd}{n:Nat}{A:Around}{s:Shared}{σ:PH}{Q:PV->PH->Prop}
def bU(W:Wd)(σ:PH)(s:Shared)(Q:Bool->PH->Prop):Bool->Shared->Prop:=λ b s'=>∃B9,Q b B9∧SR W B9 s'.heap∧kC σ s.heap B9 s'.heap∧Sm s s'
theorem bU.now{Q:Bool->PH->Prop}{b:Bool}(S:SR W σ s.heap)(q:Q b σ){s':Shared}(hs:∃t,s'={s with toks:=t}):bU W σ s Q b s':=by
 intros hs t hZ;obtain rfl:=hZ;exact⟨σ,q,S,.refl _ _,⟨s.heap,t,rfl⟩⟩
theorem FW{x:PV}{v:Value}{b:Bool}{Q:Bool->PH->Prop}(S:SR W σ s.heap)(rx:VR s.heap x v)(h:zJ σ x=some b)(q:Q b σ):wpAny W.M A (truthy v) (bU W σ s Q) (λ _ _=>False) s:=match x,rx,h with
 |.none,rx,h=>rx.WZ (P:=λ v=>wpAny W.M A (truthy v) (bU W σ s Q) (λ _ _=>False) s) (truthy_none (bU.now S (G8 h▸q) ⟨_,rfl⟩))
 |.bool c,rx,h=>rx.Sk (P:=λ v=>wpAny W.M A (truthy v) (bU W σ s Q) (λ _ _=>False) s) (kG (bU.now S (G8 h▸q) ⟨_,rfl⟩))
 |.int i,rx,h=>rx.mG (P:=λ v=>wpAny W.M A (truthy v) (bU W σ s Q) (λ _ _=>False) s) λ t=>by
  refine PyProof.Rows.truthy_int ?_
  rw[show(i !=0)=decide (i≠0)from by by_cases h:i=0<;>simp[h],G8 h];exact bU.now S q ⟨_,rfl⟩
 |.str x,rx,h=>rx.qD (P:=λ v=>wpAny W.M A (truthy v) (bU W σ s Q) (λ _ _=>False) s) λ t z=>by
  rw[K0]at z
  refine PySem.P.truthy_str (by lia) ?_
  rw[show((x.length:Int) !=0)=decide (x.length≠0)from by by_cases h:x.length=0<;>simp[h],G8 h];exact bU.now S q ⟨_,rfl⟩
 |.ref a,rx,h=>rx.tG (P:=λ v=>wpAny W.M A (truthy v) (bU W σ s Q) (λ _ _=>False) s)<|dC (P:=λ o=>σ a=o->wpAny W.M A (truthy (.ref a)) (bU W σ s Q) (λ _ _=>False) s) (σ a) h no (λ xs h e=>by
  refine ee2.e (S.list e) λ vs k hZ=>?_;delta hZ e1 r z
  refine wpAny_truthy_list (Q3 e1) (by rw[H1,r.length];lia) ?_
  rewrite[show(!(vs.toArray).isEmpty)=!xs.isEmpty from by clear e1 e h z;cases r<;>rfl,G8 h];exact bU.now S q ⟨_,rfl⟩) rfl
 |.tup _,_,h|.rZ _ _,_,h|.M7,_,h=>no h
theorem Kf{x:PV}{v:Value}(S:SR W σ s.heap)(rx:VR s.heap x v){i:Int}(h:x=.int i)(q:Q (.int (-i)) σ):wpAny W.M A (unaryOp .USub v) (K4 W σ s Q) (λ _ _=>False) s:=by
 subst h
 cases rx
 exact PyProof.Rows.neg_int (K4.now S (.int _ _) q ⟨_,rfl⟩)
theorem Mi(rm:Rm n A){x y:Addr}{b:Bool}(S:SR W σ s.heap)(h:Ij σ x y=some b):RcAt A s (.ref x) (.ref y) b∧RcNeAt A s (.ref x) (.ref y) (!b):=
 dC (P:=λ o=>σ x=o->RcAt A s (.ref x) (.ref y) b∧RcNeAt A s (.ref x) (.ref y) (!b)) (σ x) h no (λ xs h e1=>dC (P:=λ o=>σ y=o->RcAt A s (.ref x) (.ref y) b∧RcNeAt A s (.ref x) (.ref y) (!b)) (σ y) h no (λ ys h e2=>by
  have hZ:=VA h;delta hZ hf h
  obtain rfl:BS xs ys=b:=G8 h
  have hu:=rm.u
  have Tv:A.in1.units<cLine:=H8 (J6 _ _) rm.in1
  refine ee2.e (S.list e1) λ vs k hZ=>?_;delta hZ g1 r1 z1
  refine ee2.e (S.list e2) λ us k' hZ=>?_;delta hZ g2 r2 z2
  have l1:=r1.length
  have l2:=r2.length
  by_cases hl:xs.length=ys.length
  ·have he:∀j (h1:j<vs.toArray.size) (h2:j<us.toArray.size),EqAt A.in1 s vs.toArray[j] us.toArray[j] ((λ j=>KC (xs.getD j .none) (ys.getD j .none)) j):=λ j h1 h2=>
    vY Tv (uK hf.1 (l1▸h1)) (uK hf.2 (l2▸h2)) (r1.getElem h1) (r2.getElem h2)
   have ez:vs.toArray.size=us.toArray.size:=l1.trans (hl.trans l2.symm)
   have h1:=RcAt.lists (Q3 g1) (Q3 g2) ez hu he
   have h2:=RcNeAt.lists (Q3 g1) (Q3 g2) ez hu he
   rw[BR hl,<-l1]
   exact⟨h1,h2⟩
  ·rw[KA hl]
   have ne:(vs.toArray.size !=us.toArray.size)=true:=bH.mpr λ e=>hl (l1.symm.trans (e.trans l2))
   exact⟨RcAt.lists_lengths (Q3 g1) (Q3 g2) ne hu,RcNeAt.lists_lengths (Q3 g1) (Q3 g2) ne hu⟩) rfl) rfl
theorem Ii(rm:Rm n A){x y:PV}{v u:Value}{b:Bool}(S:SR W σ s.heap)(rx:VR s.heap x v)(ry:VR s.heap y u)(h:Bk σ x y=some b):RcAt A s v u b∧RcNeAt A s v u (!b):=
 dB (P:=λ x=>VR s.heap x v->RcAt A s v u b∧RcNeAt A s v u (!b)) x h (λ h rx=>by
   have hZ:=VA h;delta hZ hf h
   obtain rfl:vW x y=b:=G8 h
   exact qL (P:=λ x=>VR s.heap x v->RcAt A s v u (vW x y)∧RcNeAt A s v u (!vW x y)) hf.1
    (λ i rx=>rx.mG (P:=λ v=>RcAt A s v u (vW (.int i) y)∧RcNeAt A s v u (!vW (.int i) y)) λ t=>qL (P:=λ y=>VR s.heap y u->RcAt A s (.int i t) u (vW (.int i) y)∧RcNeAt A s (.int i t) u (!vW (.int i) y)) hf.2
     (λ j ry=>ry.mG (P:=λ u=>RcAt A s (.int i t) u (decide (i=j))∧RcNeAt A s (.int i t) u (!decide (i=j))) λ t'=>⟨RcAt.int_int i t j t',RcNeAt.int_int i t j t'⟩)
     (λ j ry=>ry.qD (P:=λ u=>RcAt A s (.int i t) u false∧RcNeAt A s (.int i t) u true) λ t' _=>⟨RcAt.int_str i t j t',RcNeAt.int_str i t j t'⟩) ry)
    (λ i rx=>rx.qD (P:=λ v=>RcAt A s v u (vW (.str i) y)∧RcNeAt A s v u (!vW (.str i) y)) λ t _=>qL (P:=λ y=>VR s.heap y u->RcAt A s (.str i t) u (vW (.str i) y)∧RcNeAt A s (.str i t) u (!vW (.str i) y)) hf.2
     (λ j ry=>ry.mG (P:=λ u=>RcAt A s (.str i t) u false∧RcNeAt A s (.str i t) u true) λ t'=>⟨RcAt.str_int i t j t',RcNeAt.str_int i t j t'⟩)
     (λ j ry=>ry.qD (P:=λ u=>RcAt A s (.str i t) u (decide (i=j))∧RcNeAt A s (.str i t) u (!decide (i=j))) λ t' _=>⟨RcAt.str_str i t j t',RcNeAt.str_str i t j t'⟩) ry) rx)
  (λ a h rx=>dB (P:=λ y=>VR s.heap y u->RcAt A s v u b∧RcNeAt A s v u (!b)) y h no (λ c h ry=>rx.tG (P:=λ v=>RcAt A s v u b∧RcNeAt A s v u (!b)) (ry.tG (P:=λ u=>RcAt A s (.ref a) u b∧RcNeAt A s (.ref a) u (!b)) (Mi rm S h))) ry) rx
theorem KV.nil_of{K:Type}{f:K->PK}{p:PK->Bool}{h:Heap}{es:List (PK×PV)}{q:List (K×Value)}(x:KV f h es q)(hp:∀k,p (f k)=false)(ha:es.all (λ e=>p e.1)=true):es=[]∧q=[]:=by
 cases x with
 |nil=>exact⟨rfl,rfl⟩
 |cons=>exact absurd ((hp _).symm.trans (bt ha).1) C5
theorem KT.nil_of{p:PK->Bool}{h:Heap}{es:List (PK×PV)}{q:List (List Int×Addr×Value)}(x:KT W h es q)(hp:∀k,p (.bN k)=false)(ha:es.all (λ e=>p e.1)=true):es=[]∧q=[]:=by
 cases x with
 |nil=>exact⟨rfl,rfl⟩
 |cons=>exact absurd ((hp _).symm.trans (bt ha).1) C5
theorem NP{ds:Array DictEntry}(h:ds.toList=[]):ds=#[]:=Array.ext' h
theorem Pairs.nil_of{K:Type}[DecidableEq K]{kn:PySem.KeyKind W.prog W.w K}{l:List DictEntry}(x:Pairs kn l []):l=[]:=by cases x;rfl
theorem DR.Pd{h:Heap}{k:Nat}{es:List (PK×PV)}{ob:Obj}(x:DR W h k es ob){i:Int}(hs:U3 (.int i) es=true):
  ∃ds kvs,ob=⟨.type "dict",none,.dict ds k,#[]⟩∧KV PK.int h es kvs∧KeysOf W.ik ds∧Pairs W.ik ds.toList kvs∧(kvs.map (·.1)).Nodup:=by
 have em:es=[]->∀ds:Array DictEntry,ds.toList=[]->∃Bm kvs,(⟨.type "dict",none,.dict ds k,#[]⟩:Obj)=⟨.type "dict",none,.dict Bm k,#[]⟩∧KV PK.int h es kvs∧KeysOf W.ik Bm∧Pairs W.ik Bm.toList kvs∧(kvs.map (·.1)).Nodup:=λ e ds hd=>by
  clear hs x;subst e;obtain rfl:=NP hd;exact⟨#[],[],rfl,.nil,λ e he=>by simp at he,.nil,.nil⟩
 cases x with
 |@i ds kvs a b c d=>exact⟨ds,kvs,rfl,a,b,c,d⟩
 |@s ds kvs a b c d=>have hZ:=a.nil_of (p:=HB) (λ _=>rfl) hs;generalize hZ.1=e;clear a d;obtain rfl:=hZ.2;try clear hZ;exact em e ds (Pairs.nil_of c)
 |@t ds xs a c d=>have hZ:=a.nil_of (p:=HB) (λ _=>rfl) hs;generalize hZ.1=e;clear a d hs i;obtain rfl:=hZ.2;try clear hZ;exact em e ds c
theorem DR.toS{h:Heap}{k:Nat}{es:List (PK×PV)}{ob:Obj}(x:DR W h k es ob){i:Str}(hs:U3 (.str i) es=true):
  ∃ds kvs,ob=⟨.type "dict",none,.dict ds k,#[]⟩∧KV PK.str h es kvs∧KeysOf W.sk ds∧Pairs W.sk ds.toList kvs∧(kvs.map (·.1)).Nodup:=by
 have em:es=[]->∀ds:Array DictEntry,ds.toList=[]->∃Bm kvs,(⟨.type "dict",none,.dict ds k,#[]⟩:Obj)=⟨.type "dict",none,.dict Bm k,#[]⟩∧KV PK.str h es kvs∧KeysOf W.sk Bm∧Pairs W.sk Bm.toList kvs∧(kvs.map (·.1)).Nodup:=λ e ds hd=>by
  clear hs x;subst e;obtain rfl:=NP hd;exact⟨#[],[],rfl,.nil,λ e he=>by simp at he,.nil,.nil⟩
 cases x with
 |@s ds kvs a b c d=>exact⟨ds,kvs,rfl,a,b,c,d⟩
 |@i ds kvs a b c d=>have hZ:=a.nil_of (p:=jU) (λ _=>rfl) hs;generalize hZ.1=e;clear a d;obtain rfl:=hZ.2;try clear hZ;exact em e ds (Pairs.nil_of c)
 |@t ds xs a c d=>have hZ:=a.nil_of (p:=jU) (λ _=>rfl) hs;generalize hZ.1=e;clear a d hs i;obtain rfl:=hZ.2;try clear hZ;exact em e ds c
theorem DR.toT{h:Heap}{k:Nat}{es:List (PK×PV)}{ob:Obj}(x:DR W h k es ob){i:List Int}(hs:U3 (.bN i) es=true):
  ∃ds xs,ob=⟨.type "dict",none,.dict ds k,#[]⟩∧KT W h es xs∧ds.toList=xs.map (entryOfKey W.tk)∧(xs.map (·.1)).Nodup:=by
 have em:es=[]->∀ds:Array DictEntry,ds.toList=[]->∃Bm xs,(⟨.type "dict",none,.dict ds k,#[]⟩:Obj)=⟨.type "dict",none,.dict Bm k,#[]⟩∧KT W h es xs∧Bm.toList=xs.map (entryOfKey W.tk)∧(xs.map (·.1)).Nodup:=λ e ds hd=>by
  clear hs x;subst e;obtain rfl:=NP hd;exact⟨#[],[],rfl,.nil,rfl,.nil⟩
 cases x with
 |@t ds xs a c d=>exact⟨ds,xs,rfl,a,c,d⟩
 |@i ds kvs a b c d=>have hZ:=a.nil_of (p:=jT) (λ _=>rfl) hs;generalize hZ.1=e;clear a d;obtain rfl:=hZ.2;try clear hZ;exact em e ds (Pairs.nil_of c)
 |@s ds kvs a b c d=>have hZ:=a.nil_of (p:=jT) (λ _=>rfl) hs;generalize hZ.1=e;clear a d;obtain rfl:=hZ.2;try clear hZ;exact em e ds (Pairs.nil_of c)
def KU(W:Wd)(A:Around)(s:Shared)(v u:Value)(b:Bool):Prop:=(∀R:Value->Shared->Prop,(∀t,R (.bool b) {s with toks:=t})->wpAny W.M A (compareOp .In v u) R (λ _ _=>False) s)∧
 (∀R:Value->Shared->Prop,(∀t,R (.bool (!b)) {s with toks:=t})->wpAny W.M A (compareOp .NotIn v u) R (λ _ _=>False) s)
theorem XF(rm:Rm n A){x:PV}{v:Value}{b:Bool}{xs:List PV}{vs:List Value}(rx:VR s.heap x v)(r1:bP s.heap xs vs)(h:DD x xs=some b):(∀y,y∈vs.toArray->EqAt A.in1 s y v (vX s.heap x xs y))∧vs.toArray.any (vX s.heap x xs)=b:=by
 have hZ:=VA h;delta hZ hf h
 obtain rfl:_=b:=G8 h
 refine⟨λ y hy=>?_,by rw[<-Am hf.2 r1,List.any_toArray]⟩
 refine A0 (r1.mem (List.mem_toArray.mp hy)) λ w hZ=>?_;delta hZ hw Jv
 rw[zA hf.2 hw Jv]
 exact vY (H8 (J6 _ _) rm.in1) (G3.mp hf.2 _ hw) hf.1 Jv rx
theorem Kw(hW:W.Ok)(rm:Rm n A){v:Value}{b:Bool}{a:Addr}{es:List (PK×PV)}{ep:Nat}{k:PK}(S:SR W σ s.heap)(e:σ a=some (.dict es ep))(kr:OP W s.heap k v)(hk:U3 k es=true)(h:(es.lookup k).isSome=b):KU W A s v (.ref a) b:=by
 have hd:=hW.vQ S e
 refine A0 (S.dict e) λ ob hZ=>?_;delta hZ g1 r
 subst h
 cases kr with
 |int i t=>
  refine ee2.e (r.Pd hk) λ ds kvs hZ=>?_;obtain rfl:=hZ.1;delta hZ hZ kv b c d
  have hs:(es.lookup (.int i)).isSome=(valueAt kvs i).isSome:=by
   rcases fV (λ _ _ h=>by injection h) kv i with⟨z,z'⟩|⟨y,u,z,z2,r⟩
   ·rw[z,z'];rfl
   ·rw[z,z2];rfl
  rw[hs]
  exact⟨λ R hR=>wpAny_in_of (EW i t) hd (lK g1 b c d).mapOf (hR _),λ R hR=>wpAny_notIn_of (EW i t) hd (lK g1 b c d).mapOf (hR _)⟩
 |str i t=>
  refine ee2.e (r.toS hk) λ ds kvs hZ=>?_;obtain rfl:=hZ.1;delta hZ hZ kv b c d
  have hs:(es.lookup (.str i)).isSome=(valueAt kvs i).isSome:=by
   rcases fV (λ _ _ h=>by injection h) kv i with⟨z,z'⟩|⟨y,u,z,z2,r⟩
   ·rw[z,z'];rfl
   ·rw[z,z2];rfl
  rw[hs]
  exact⟨λ R hR=>wpAny_in_of (PJ i t) hd (uE g1 b c d).mapOf (hR _),λ R hR=>wpAny_notIn_of (PJ i t) hd (uE g1 b c d).mapOf (hR _)⟩
 |@bN l a' tk tz=>
  refine ee2.e (r.toT hk) λ ds xs hZ=>?_;clear r;obtain rfl:=hZ.1;delta hZ hZ kt c d
  have hs:(es.lookup (.bN l)).isSome=(atKey xs l).isSome:=by
   rcases mI kt l with⟨z,z'⟩|⟨y,a2,u,z,z2,r⟩
   ·rw[z,z'];rfl
   ·rw[z,z2];rfl
  rw[hs]
  have hu:=rm.cLine
  exact⟨λ R hR=>wpAny_in_heap (knd:=W.tk) (iU (by lia)) tk hd (pD g1 kt c d) (hR _),λ R hR=>wpAny_notIn_heap (knd:=W.tk) (iU (by lia)) tk hd (pD g1 kt c d) (hR _)⟩
theorem Hu(hW:W.Ok)(rm:Rm n A){x y:PV}{v u:Value}{b:Bool}(S:SR W σ s.heap)(rx:VR s.heap x v)(ry:VR s.heap y u)(h:QP σ x y=some b):KU W A s v u b:=
 dB (P:=λ y=>VR s.heap y u->KU W A s v u b) y h (λ h ry=>AR (P:=λ y=>VR s.heap y u->KU W A s v u b) y h no (λ xs h ry=>ry.xN (P:=λ u=>KU W A s v u b) λ a vs t r _=>
   have m:=XF rm rx r h
   ⟨λ R hR=>SeqAt.in_tupleAt (vX s.heap x xs) t m.1 (by rw[m.2];exact hR _),λ R hR=>SeqAt.notIn_tupleAt (vX s.heap x xs) t m.1 (by rw[m.2];exact hR _)⟩) ry)
  (λ a h ry=>ry.tG (P:=λ u=>KU W A s v u b) (lE (P:=λ o=>σ a=o->KU W A s v (.ref a) b) (σ a) h (λ h e=>dC (P:=λ o=>σ a=o->KU W A s v (.ref a) b) (σ a) h no (λ xs h e=>by
    refine ee2.e (S.list e) λ vs k hZ=>?_;delta hZ g1 r1 z1
    have m:=XF rm rx r1 h
    exact⟨λ R hR=>SeqAt.in_listAt (vX s.heap x xs) (Q3 g1) m.1 (by rw[m.2];exact hR _),λ R hR=>SeqAt.notIn_listAt (vX s.heap x xs) (Q3 g1) m.1 (by rw[m.2];exact hR _)⟩) e)
   (λ es ep h e=>let⟨k,e1,e2⟩:=gJ.mp h;Kw hW rm S e (yV rx e1) (VA e2).1 (G8 (VA e2).2)) rfl)) ry
theorem yZ{C:Value->Value->Prop}{h':Heap}{x y:PV}{v u:Value}{f:Int->Int->Bool}{r:Bool}(h:XO f x y=some r)(rx:VR h' x v)(ry:VR h' y u)(k:∀i j t t',f i j=r->C (.int i t) (.int j t')):C v u:=
 dD (P:=λ x=>VR h' x v->C v u) x h no (λ i h rx=>dD (P:=λ y=>VR h' y u->C v u) y h no (λ j h ry=>rx.mG (P:=λ v=>C v u) λ t=>ry.mG (P:=λ u=>C (.int i t) u) λ t'=>k i j t t' (G8 h)) ry) rx
theorem QN{y:PV}(h:isNone y=true):y=.none:=by cases y<;>first|rfl|cases h
theorem is_none{h':Heap}{x:PV}{v:Value}(rx:VR h' x v):(v==Value.none)=isNone x:=by cases rx<;>rfl
theorem vZ(hW:W.Ok)(rm:Rm n A){op:CmpOp}{x y:PV}{v u:Value}{r:Bool}(S:SR W σ s.heap)(rx:VR s.heap x v)(ry:VR s.heap y u)(h:iR σ op x y=some r)(q:Q (.bool r) σ):
  wpAny W.M A (compareOp op v u) (K4 W σ s Q) (λ _ _=>False) s:=by
 have fin:∀t,K4 W σ s Q (.bool r) {s with toks:=t}:=λ t=>K4.now S (.bool r) q ⟨t,rfl⟩
 clear q;cases op with
 |Eq=>exact(Ii rm S rx ry h).1 _ _ _ _ (fin s.toks)
 |NotEq=>
  refine A0 (O3.mp h) λ b hZ=>?_;generalize hZ.1=e;clear h;obtain rfl:=hZ.2;try clear hZ
  exact(Ii rm S rx ry e).2 _ _ _ _ (fin s.toks)
 |In=>exact(Hu hW rm S rx ry h).1 _ fin
 |NotIn=>
  refine A0 (O3.mp h) λ b hZ=>?_;generalize hZ.1=e;clear h;obtain rfl:=hZ.2;try clear hZ
  exact(Hu hW rm S rx ry e).2 _ fin
 |Lt=>exact yZ (C:=λ v u=>wpAny W.M A (compareOp .Lt v u) (K4 W σ s Q) (λ _ _=>False) s) h rx ry λ i j t t' e=>PySem.P.lt_int (e▸fin s.toks)
 |LtE=>exact yZ (C:=λ v u=>wpAny W.M A (compareOp .LtE v u) (K4 W σ s Q) (λ _ _=>False) s) h rx ry λ i j t t' e=>PySem.P.le_int (e▸fin s.toks)
 |Gt=>exact yZ (C:=λ v u=>wpAny W.M A (compareOp .Gt v u) (K4 W σ s Q) (λ _ _=>False) s) h rx ry λ i j t t' e=>PySem.P.gt_int (e▸fin s.toks)
 |GtE=>exact yZ (C:=λ v u=>wpAny W.M A (compareOp .GtE v u) (K4 W σ s Q) (λ _ _=>False) s) h rx ry λ i j t t' e=>PySem.P.ge_int (e▸fin s.toks)
 |Is=>
  have hZ:=VA (show(if isNone y=true then some (isNone x)else none)=some r from h);delta hZ e h
  obtain rfl:=QN e
  exact ry.WZ (P:=λ u=>wpAny W.M A (compareOp .Is v u) (K4 W σ s Q) (λ _ _=>False) s) (wpAny_is_plain (by cases rx<;>rfl) (by rw[is_none rx,G8 h];exact fin s.toks))
 |IsNot=>
  have hZ:=VA (show(if isNone y=true then some (!isNone x)else none)=some r from h);delta hZ e h
  obtain rfl:=QN e
  exact ry.WZ (P:=λ u=>wpAny W.M A (compareOp .IsNot v u) (K4 W σ s Q) (λ _ _=>False) s) (wpAny_isNot_plain (by cases rx<;>rfl) (by rw[is_none rx,G8 h];exact fin s.toks))
end
end
section
open PySem.SeqAt (EqAt RcAt RcNeAt)
def CN(W:Wd)(σ:PH)(s:Shared)(Q:PH->Prop):Shared->Prop:=λ s'=>∃B9,Q B9∧SR W B9 s'.heap∧kC σ s.heap B9 s'.heap∧Sm s s'
theorem KV.length{K:Type}{f:K->PK}{h:Heap}{es:List (PK×PV)}{q:List (K×Value)}(x:KV f h es q):q.length=es.length:=by
 induction x with
 |nil=>rfl
 |cons _ _ ih=>simp[ih]
theorem KT.length{W:Wd}{h:Heap}{es:List (PK×PV)}{q:List (List Int×Addr×Value)}(x:KT W h es q):q.length=es.length:=by
 induction x with
 |nil=>rfl
 |cons _ _ _ ih=>simp[ih]
theorem DE{K:Type}[DecidableEq K](k:K)(v:Value)(q:List (K×Value))(h:k∉q.map (·.1)):q.map (λ kv=>if kv.1=k then(kv.1,v)else kv)=q:=by
 induction q with
 |nil=>rfl
 |cons p r ih=>
  simp only[I6,F8,not_or]at h
  simp only[I6,G0 (λ e=>h.1 e.symm:¬p.1=k),ih h.2]
theorem KV.put{K:Type}[DecidableEq K]{f:K->PK}(inj:∀a b,f a=f b->a=b){h:Heap}{es:List (PK×PV)}{q:List (K×Value)}(x:KV f h es q)(hn:(q.map (·.1)).Nodup)(k:K){y:PV}{v:Value}(r:VR h y v):
  KV f h (putK (f k) y es) (stored q k v):=by
 induction x with
 |nil=>exact .cons r .nil
 |@cons k' z u es q a b ih=>
  simp only[I6,N7]at hn
  by_cases e:k'=k
  ·subst e
   have:stored ((k',u)::q) k' v=(k',v)::q:=by
    unfold stored
    simp only[List.any_cons,decide_true,Bool.true_or,if_true,I6]
    rw[DE _ _ _ hn.1]
   rw[this,lT,F7 rfl]
   exact .cons r b
  ·have e1:¬f k'=f k:=λ z=>e (inj _ _ z)
   have:stored ((k',u)::q) k v=(k',u)::stored q k v:=by
    unfold stored
    simp only[List.any_cons,e,decide_false,Bool.false_or,I6,gZ]
    split<;>rfl
   rw[this,lT,G0 e1]
   exact .cons a (ih hn.2)
theorem yC(k:List Int)(v:Value)(q:List (List Int×Addr×Value))(h:k∉q.map (·.1)):q.map (putAt k v)=q:=map_putAt_of_not_mem q k v h
theorem KT.put{W:Wd}{h:Heap}{es:List (PK×PV)}{q:List (List Int×Addr×Value)}(x:KT W h es q)(hn:(q.map (·.1)).Nodup){k:List Int}{a:Addr}(hk:IsTupleKey W.ik h k a∧k.length<=2^25){y:PV}{v:Value}(r:VR h y v):
  KT W h (putK (.bN k) y es) (storedH q k a v):=by
 induction x with
 |nil=>exact .cons hk r .nil
 |@cons k' z a' u es q TK b c ih=>
  simp only[I6,N7]at hn
  by_cases e:k'=k
  ·clear hk;subst e
   have:storedH ((k',a',u)::q) k' a v=(k',a',v)::q:=by
    unfold storedH
    simp only[atKey,List.find?_cons,decide_true,fX,Option.isSome_some,if_true,I6,putAt]
    rw[yC k' v q hn.1]
   rw[this,lT,F7 rfl]
   exact .cons TK r c
  ·have e1:¬PK.bN k'=PK.bN k:=λ z=>e (by injection z)
   have:storedH ((k',a',u)::q) k a v=(k',a',u)::storedH q k a v:=by
    unfold storedH
    have:atKey ((k',a',u)::q) k=atKey q k:=by simp[atKey,e]
    rw[this]
    simp only[I6,putAt,e,gZ]
    split<;>rfl
   rw[this,lT,G0 e1]
   exact .cons TK b (ih hn.2)
section
variable{W:Wd}{n:Nat}{A:Around}{s:Shared}{σ:PH}
theorem GF{l:Addr}{vs:List Value}{m:Nat}{i:Int}{t:Tok}{v:Value}{R:Unit->Shared->Prop}{E:Value->Shared->Prop}
  (ho:s.heap.get? l=some ⟨.type "list",none,.seq vs.toArray m,#[]⟩)(h0:0<=i)(hk:i<vs.length)(hf:Builtin.List.listFitsIndex i=true)
  (hQ:∀h' m',h'.get? l=some ⟨.type "list",none,.seq (vs.set i.toNat v).toArray m',#[]⟩->Heap.SameBut l s.heap h'->R () {s with heap:=h'}):
  wpAny (model W.prog W.w) A (setItem (.ref l) (.int i t) v) R E s:=by
 have hl:=Q3 ho
 unfold setItem
 try with_reducible refine K2 ?_
 first|refine B6 (D4 ?_)|skip
 refine B6 (wpAny_sequenceKey hl.typeIs (by decide) ?_)
 refine B6 (wpAny_callSpecial?_slot (name:=Str.ofString "__setitem__") hl.typeIs slot_list_setitem (cY slot_list_setitem hl.typeIs entry_list_setitem ?_ (args_list_setitem _ _ _)))
 show wpAny _ _ (Builtin.List.listSubscript? (.int i t)>>=_) _ _ s
 refine B6 (wpAny_listSubscript_int hf ?_)
 clear hf
 refine A0 (cC h0) λ k hZ=>?_;clear h0 hl;obtain rfl:=hZ
 have TK:k<vs.length:=by lia
 have hx:vs.toArray[k]? =some vs[k]:=by simp[TK]
 show wpAny _ _ ((seqItemAt l k>>=λ r=>pure (r.map (k,·)))>>=_) _ _ s
 refine B6 (B6 (wpAny_seqItemAt ho rfl (D4 ?_)))
 rw[hx]
 show wpAny _ _ (setSeqItemAt l k v>>=_) _ _ s
 have e:Obj.mapSeq (·.setIfInBounds k v) ⟨.type "list",none,.seq vs.toArray m,#[]⟩=⟨.type "list",none,.seq (vs.set k v).toArray m,#[]⟩:=by
  simp[Obj.mapSeq]
 have Ra:(s.heap.update l (Obj.mapSeq (·.setIfInBounds k v))).get? l=some ⟨.type "list",none,.seq (vs.set k v).toArray m,#[]⟩:=by
  rw[Heap.get?_update_self _ ho (by rw[e];rfl),e]
 refine B6 (wpAny_setSeqItemAt ho rfl ?_)
 first
  |exact B6 (D4 (D4 ⟨.none,rfl,D4 (hQ _ _ Ra (cX ..))⟩))
  |exact D4 ⟨.none,rfl,D4 (hQ _ _ Ra (cX ..))⟩
theorem VY(rm:Rm n A){a:Addr}{es:List (PK×PV)}{ep:Nat}{k:PK}{x:PV}{vi vx:Value}{Q:PH->Prop}(S:SR W σ s.heap)(e:σ a=some (.dict es ep))(kr:OP W s.heap k vi)(hk:U3 k es=true)(hz:es.length<2^24)(rx:VR s.heap x vx)
  (q:∀TW,Q (σ.set a (.dict (putK k x es) TW))):wpAny W.M A (setItem (.ref a) vi vx) (λ _=>CN W σ s Q) (λ _ _=>False) s:=by
 refine A0 (S.dict e) λ ob hZ=>?_;delta hZ g r
 cases kr with
 |int i t=>
  refine ee2.e (r.Pd hk) λ ds kvs hZ=>?_;obtain rfl:=hZ.1;delta hZ hZ kv b c d
  refine wpAny_setItem_pairs (EW i t) (lK g b c d) (λ h' hd sb=>?_) (by rw[K0,kv.length];exact M8 hz)
  refine A0 hd ?_;try clear hd;intro hZ;obtain⟨oc,od,dt,sl⟩:=hZ;intro hZ;intros hZ j5 Q0;intros Q0 TW P4;generalize P4.1=g';generalize P4.2=sE;generalize sE.1=nS;clear P4;obtain rfl:=nS.1;generalize nS.2=uC;obtain rfl:=uC.1;obtain rfl:=uC.2;try clear uC;try clear nS;generalize sE.2=nS;obtain rfl:=nS.1;generalize nS.2=uC;generalize uC.1=b';generalize uC.2=Rg;delta Rg c' d';try clear uC;try clear nS;try clear sE;try clear P4
  have hZ:=S.upd e sb g' (.dict (.i (kv.put (λ _ _ h=>by injection h) d i rx) b' c' d'));delta hZ S' st
  exact⟨_,q TW,S',st,⟨h',_,rfl⟩⟩
 |str i t=>
  refine ee2.e (r.toS hk) λ ds kvs hZ=>?_;obtain rfl:=hZ.1;delta hZ hZ kv b c d
  refine wpAny_setItem_pairs (PJ i t) (uE g b c d) (λ h' hd sb=>?_) (by rw[K0,kv.length];exact M8 hz)
  refine A0 hd ?_;try clear hd;intro hZ;obtain⟨oc,od,dt,sl⟩:=hZ;intro hZ;intros hZ j5 Q0;intros Q0 TW P4;generalize P4.1=g';generalize P4.2=sE;generalize sE.1=nS;clear P4;obtain rfl:=nS.1;generalize nS.2=uC;obtain rfl:=uC.1;obtain rfl:=uC.2;try clear uC;try clear nS;generalize sE.2=nS;obtain rfl:=nS.1;generalize nS.2=uC;generalize uC.1=b';generalize uC.2=Rg;delta Rg c' d';try clear uC;try clear nS;try clear sE;try clear P4
  have hZ:=S.upd e sb g' (.dict (.s (kv.put (λ _ _ h=>by injection h) d i rx) b' c' d'));delta hZ S' st
  exact⟨_,q TW,S',st,⟨h',_,rfl⟩⟩
 |bN tk tz=>
  refine ee2.e (r.toT hk) λ ds xs hZ=>?_;clear hk r;obtain rfl:=hZ.1;delta hZ hZ kt c d
  refine wpAny_setItem_heap (knd:=W.tk) (iU (by have:=rm.cLine;lia)) tk (pD g kt c d) (λ h' hd sb=>?_) (by rw[K0,kt.length];exact M8 hz)
  refine A0 hd ?_;try clear hd;intro hZ;clear c g hz rm;obtain⟨oc,od,dt,sl⟩:=hZ;intro hZ;intros hZ j5 Q0;intros Q0 TW P4;generalize P4.1=g';generalize P4.2=sE;generalize sE.1=nS;clear P4;obtain rfl:=nS.1;generalize nS.2=uC;obtain rfl:=uC.1;obtain rfl:=uC.2;try clear uC;try clear nS;generalize sE.2=nS;clear sE;obtain rfl:=nS.1;generalize nS.2=uC;generalize uC.1=c';generalize uC.2=Rg;delta Rg k' d';try clear uC;try clear nS;try clear sE;try clear P4
  have hZ:=S.upd e sb g' (.dict (.t (kt.put d ⟨tk,tz⟩ rx) c' d'));delta hZ S' st
  exact⟨_,q TW,S',st,⟨h',_,rfl⟩⟩
theorem MB(rm:Rm n A){o i x:PV}{vo vi vx:Value}{Q:PH->Prop}(S:SR W σ s.heap)(ro:VR s.heap o vo)(ri:VR s.heap i vi)(rx:VR s.heap x vx)(h:kO σ i x Q o):
  wpAny W.M A (setItem vo vi vx) (λ _=>CN W σ s Q) (λ _ _=>False) s:=
 dB (P:=λ o=>VR s.heap o vo->wpAny W.M A (setItem vo vi vx) (λ _=>CN W σ s Q) (λ _ _=>False) s) o (eq_true h) (λ e=>(bG e).elim) (λ a h ro=>ro.tG (P:=λ vo=>wpAny W.M A (setItem vo vi vx) (λ _=>CN W σ s Q) (λ _ _=>False) s)<|
  lE (P:=λ o=>σ a=o->wpAny W.M A (setItem (.ref a) vi vx) (λ _=>CN W σ s Q) (λ _ _=>False) s) (σ a) h (λ h e=>dC (P:=λ o=>σ a=o->wpAny W.M A (setItem (.ref a) vi vx) (λ _=>CN W σ s Q) (λ _ _=>False) s) (σ a) h (λ e _=>(bG e).elim) (λ xs h e=>by
    refine A0 (bG h) λ k hZ=>?_;clear h;obtain rfl:=hZ.1;delta hZ hZ hk q
    refine ri.mG (P:=λ vi=>wpAny W.M A (setItem (.ref a) vi vx) (λ _=>CN W σ s Q) (λ _ _=>False) s) λ t=>?_
    refine ee2.e (S.list e) λ vs m hZ=>?_;delta hZ g r z
    have l:=r.length
    refine GF g (G6 k) (by lia) (fitsIndex_of (by lia) (by lia)) λ h' m' g' sb=>?_
    have hZ:=S.upd e sb g' (.list (r.set k rx) (by rw[P0];exact z));delta hZ S' st
    exact⟨_,q,S',st,⟨h',s.toks,rfl⟩⟩) e)
   (λ es ep h e=>let⟨k,e1,hk,hz,q⟩:=bG h;VY rm S e (yV ri e1) hk hz rx q) rfl) ro
end
end
section
variable{W:Wd}{n:Nat}{ns:List (Option Str)}{env:Env}
def F3:Value->Shared->Prop:=λ _ _=>False
theorem K4.eN{σ B4:PH}{s I2:Shared}{Q:PV->PH->Prop}(x:kC σ s.heap B4 I2.heap)(e:Sm s I2){α:Sem Value}{A:Around}(p:wpAny W.M A α (K4 W B4 I2 Q) (λ _ _=>False) I2):wpAny W.M A α (K4 W σ s Q) (λ _ _=>False) I2:=
 I7 p (λ _ _ q=>K4.step x e q) λ _ _ z=>z
theorem bU.eN{σ B4:PH}{s I2:Shared}{Q:Bool->PH->Prop}(x:kC σ s.heap B4 I2.heap)(e:Sm s I2){α:Sem Bool}{A:Around}(p:wpAny W.M A α (bU W B4 I2 Q) (λ _ _=>False) I2):wpAny W.M A α (bU W σ s Q) (λ _ _=>False) I2:=
 I7 p (λ _ _ ⟨B9,q,S,y,z⟩=>⟨B9,q,S,x.trans y,e.trans z⟩) λ _ _ z=>z
theorem Rx{l r:Expr}{f g:T PV}{B:PV->PV->PH->(PV->PH->Prop)->Prop}{k:Value->Value->Sem Value}(hl:Ev W n ns env l f)(hr:Ev W n ns env r g)
  (hk:∀A s σ x y v u Q,Rm n A->SR W σ s.heap->VR s.heap x v->VR s.heap y u->B x y σ Q->wpAny W.M A (k v u) (K4 W σ s Q) (λ _ _=>False) s)
  {A:Around}{s:Shared}{ρ:List PV}{σ:PH}{Q:PV->PH->Prop}(rm:Rm n A)(S:SR W σ s.heap)(F:FR W ns ρ env σ s.heap)(h:f ρ σ λ x B4=>g ρ B4 λ y H6=>B x y H6 Q):
  wpAny W.M A (eval l env) (λ a I2=>wpAny W.M A (eval r env) (λ b fD=>wpAny W.M A (k a b) (K4 W σ s Q) (λ _ _=>False) fD) (λ _ _=>False) I2) (λ _ _=>False) s:=
 Ev.bind hl rm S F h λ v I2 x B4 q Y1 N5 U4 W6 Y7=>
  Ev.bind (A:=A) hr rm N5 U4 q λ u fD y H6 lB tB aR pM cD jA=>K4.eN (W6.trans cD) (Y7.trans jA) (hk A fD H6 x y v u Q rm aR (Y1.V7 (cD.V7 N5)) tB lB)
theorem Mg(hW:W.Ok){l r:Expr}{op:Operator}{pos:Pos}{f g:T PV}(hl:Ev W n ns env l f)(hr:Ev W n ns env r g):
  Ev W n ns env (.BinOp l op r pos) (λ ρ σ Q=>f ρ σ λ x B4=>g ρ B4 λ y H6=>mO op H6 Q x y):=λ A s ρ σ Q rm S F h=>
 wpAny_BinOp (Rx (B:=λ x y σ Q=>mO op σ Q x y) hl hr (λ A s σ x y v u Q rm S rx ry h=>OE hW rm S rx ry h) rm S F h)
theorem Mf(hW:W.Ok){l r:Expr}{op:CmpOp}{pos:Pos}{f g:T PV}(hl:Ev W n ns env l f)(hr:Ev W n ns env r g)(hm:behindInMarks op r=false):
  Ev W n ns env (.Compare l [op] [r] pos) (λ ρ σ Q=>f ρ σ λ x B4=>g ρ B4 λ y H6=>∃c,iR H6 op x y=some c∧Q (.bool c) H6):=λ A s ρ σ Q rm S F h=>
 wpAny_Compare1 (Rx (B:=λ x y σ Q=>∃c,iR σ op x y=some c∧Q (.bool c) σ) hl hr (λ A s σ x y v u Q rm S rx ry ⟨c,h,q⟩=>vZ hW rm S rx ry h q) rm S F h) hm
theorem Er(hW:W.Ok){l r:Expr}{op:CmpOp}{pos:Pos}{f g:T PV}(hl:Ev W n ns env l f)(hr:Ev W n ns env r g)(hm:behindInMarks op r=false):
  FQ W n ns env (.Compare l [op] [r] pos) (vO λ ρ σ Q=>f ρ σ λ x B4=>g ρ B4 λ y H6=>∃c,iR H6 op x y=some c∧Q (.bool c) H6).t:=λ A s ρ σ Q rm S F h=>by
 refine wpAny_isTrue_Compare1 (Ev.bind hl rm S F h λ v I2 x B4 q Y1 N5 U4 W6 Y7=>Ev.bind (A:=A) hr rm N5 U4 q λ u fD y H6 q8 tB aR pM cD jA=>?_) hm
 intros q8 c hZ;generalize hZ.1=hc;refine A0 hZ.2 λ b P4=>?_;delta P4 hb lB;try clear hZ
 cases hb
 refine I7 (vZ (Q:=λ v σ=>v=.bool c∧Q c σ) hW rm aR (Y1.V7 (cD.V7 N5)) tB hc ⟨rfl,lB⟩) (λ v aV p=>?_) λ _ _ z=>z
 intros p pv R9 hZ;generalize hZ.1=P4;obtain rfl:=P4.1;delta P4 P4 MG;delta hZ hZ ST eK gS yH
 cases ST
 exact kG ⟨R9,MG,eK,(W6.trans cD).trans gS,(Y7.trans jA).trans yH⟩
theorem Mh{e:Expr}{f:T PV}(he:Ev W n ns env e f)(hw:∀whole,isTrue e env whole=(do let v <-whole;standAt e.pos;holding [v] (truthy v))):FQ W n ns env e (vO f).t:=λ A s ρ σ Q rm S F h=>by
 rw[hw]
 refine B6 (Ev.bind he rm S F h λ v I2 x B4 q7 Y1 N5 U4 W6 Y7=>?_)
 intros q7 b hZ;delta hZ hb q
 exact bU.eN W6 Y7 (B6 (T9 (K2 (FW N5 Y1 hb q))))
theorem Mb{x:Expr}{pos:Pos}{f:T PV}(hx:Ev W n ns env x f):
  Ev W n ns env (.UnaryOp .USub x pos) (λ ρ σ Q=>f ρ σ λ x B4=>match x with|.int i=>Q (.int (-i)) B4|_=>False):=λ A s ρ σ Q rm S F h=>by
 show wpAny _ _ (do let v <-eval x env;standAt pos;holding [v] (unaryOp .USub v)) _ _ _
 refine B6 (Ev.bind hx rm S F h λ v I2 x B4 q Y1 N5 U4 W6 Y7=>K4.eN W6 Y7 (B6 (T9 (K2 ?_))))
 cases x<;>first|exact q.elim|exact Kf N5 Y1 rfl q
theorem Ma{x:Expr}{pos:Pos}{f:T PV}(hx:Ev W n ns env x f):
  Ev W n ns env (.UnaryOp .Not x pos) (λ ρ σ Q=>f ρ σ λ x B4=>∃b,zJ B4 x=some b∧Q (.bool !b) B4):=λ A s ρ σ Q rm S F h=>by
 show wpAny _ _ (do let v <-eval x env;standAt pos;holding [v] (unaryOp .Not v)) _ _ _
 refine B6 (Ev.bind hx rm S F h λ v I2 x B4 ⟨b,hb,q⟩ Y1 N5 U4 W6 Y7=>K4.eN W6 Y7 (B6 (T9 (K2 ?_))))
 show wpAny _ _ (holding [v] (do return Value.bool (!(<-truthy v)))) _ _ _
 refine K2 (B6 (I7 (FW (Q:=λ c σ=>c=b∧Q (.bool !b) σ) N5 Y1 hb ⟨rfl,q⟩) (λ c fD p=>?_) λ _ _ z=>z))
 intros p H6 hZ;generalize hZ.1=P4;clear hb q;obtain rfl:=P4.1;delta P4 P4 q;delta hZ hZ aR cD jA
 exact D4 ⟨_,H6,q,.bool _,aR,cD,jA⟩
theorem En{x:Expr}{pos:Pos}{f:T Bool}(hx:FQ W n ns env x f):FQ W n ns env (.UnaryOp .Not x pos) (λ ρ σ Q=>f ρ σ λ b B4=>Q (!b) B4):=λ A s ρ σ Q rm S F h=>by
 show wpAny _ _ (do return !(<-isTrue x env (eval x env))) _ _ _
 exact B6 (I7 (hx A s ρ σ _ rm S F h) (λ c fD ⟨H6,q,r1,r2,r3⟩=>D4 ⟨H6,q,r1,r2,r3⟩) λ _ _ z=>z)
theorem pC{e:Expr}{f:T Bool}{OM:Bool->PH->Prop}{R:Bool->Shared->Prop}{A:Around}{s:Shared}{ρ:List PV}{σ:PH}(he:FQ W n ns env e f)(rm:Rm n A)(S:SR W σ s.heap)(F:FR W ns ρ env σ s.heap)(h:f ρ σ OM)
  (hk:∀b I2 B4,OM b B4->SR W B4 I2.heap->FR W ns ρ env B4 I2.heap->kC σ s.heap B4 I2.heap->Sm s I2->R b I2):
  wpAny W.M A (isTrue e env (eval e env)) R (λ _ _=>False) s:=
 I7 (he A s ρ σ OM rm S F h) (λ v I2 ⟨B4,q,N5,x,e⟩=>hk v I2 B4 q N5 (F.eN S x) x e) λ _ _ x=>x
theorem Md{c a b:Expr}{pos:Pos}{fc:T Bool}{fa fb:T PV}(hc:FQ W n ns env c fc)(ha:Ev W n ns env a fa)(hb:Ev W n ns env b fb):
  Ev W n ns env (.IfExp c a b pos) (λ ρ σ Q=>fc ρ σ λ t B4=>match t with|true=>fa ρ B4 Q|false=>fb ρ B4 Q):=λ A s ρ σ Q rm S F h=>by
 show wpAny _ _ (do if <-isTrue c env (eval c env)then eval a env else eval b env) _ _ _
 refine B6 (pC hc rm S F h λ t I2 B4 q N5 U4 W6 Y7=>K4.eN W6 Y7 ?_)
 cases t with
 |true=>exact ha A I2 ρ B4 Q rm N5 U4 q
 |false=>exact hb A I2 ρ B4 Q rm N5 U4 q
theorem Ep{c a b:Expr}{pos:Pos}{fc fa fb:T Bool}(hc:FQ W n ns env c fc)(ha:FQ W n ns env a fa)(hb:FQ W n ns env b fb):
  FQ W n ns env (.IfExp c a b pos) (λ ρ σ Q=>fc ρ σ λ t B4=>match t with|true=>fa ρ B4 Q|false=>fb ρ B4 Q):=λ A s ρ σ Q rm S F h=>by
 show wpAny _ _ (do if <-isTrue c env (eval c env)then isTrue a env (eval a env)else isTrue b env (eval b env)) _ _ _
 refine B6 (pC hc rm S F h λ t I2 B4 q N5 U4 W6 Y7=>bU.eN W6 Y7 ?_)
 cases t with
 |true=>exact ha A I2 ρ B4 Q rm N5 U4 q
 |false=>exact hb A I2 ρ B4 Q rm N5 U4 q
theorem xI{pos:Pos}{op:BoolOp}{x y:Sem Value}{r:List (Sem Value)}:boolOp pos op (x::y::r)=(do
  let v <-x
  standAt pos
  let t <-holding [v] (truthy v)
  match op,t with
  |.And,false|.Or,true=>pure v
  |_,_=>boolOp pos op (y::r)):=rfl
theorem YR{x y:Expr}{r:List Expr}{pos:Pos}{f g:T PV}(hx:Ev W n ns env x f)
  (hy:∀A s ρ σ Q,Rm n A->SR W σ s.heap->FR W ns ρ env σ s.heap->g ρ σ Q->wpAny W.M A (boolOp pos .And (evalEach (y::r) env)) (K4 W σ s Q) (λ _ _=>False) s):
  Ev W n ns env (.BoolOp .And (x::y::r) pos) (λ ρ σ Q=>f ρ σ λ x B4=>∃t,zJ B4 x=some t∧match t with|true=>g ρ B4 Q|false=>Q x B4):=λ A s ρ σ Q rm S F h=>by
 show wpAny _ _ (boolOp pos .And (eval x env::eval y env::evalEach r env)) _ _ _
 rw[xI]
 refine B6 (Ev.bind hx rm S F h λ v I2 z B4 ⟨t,ht,q⟩ Y1 N5 U4 W6 Y7=>K4.eN W6 Y7 (B6 (T9 (B6 (K2 ?_)))))
 refine I7 (FW (Q:=λ c B9=>c=t∧B9=B4) N5 Y1 ht ⟨rfl,rfl⟩) (λ c fD p=>?_) λ _ _ z=>z
 intros p H6 hZ;generalize hZ.1=P4;clear F S h ht hx x;obtain rfl:=P4.1;obtain rfl:=P4.2;try clear P4;delta hZ hZ aR cD jA
 cases c with
 |true=>exact K4.eN cD jA (hy A fD ρ H6 Q rm aR (U4.eN N5 cD) q)
 |false=>exact D4 ⟨z,H6,q,Y1.V7 (cD.V7 N5),aR,cD,jA⟩
theorem Ih{x y:Expr}{r:List Expr}{pos:Pos}{f g:T PV}(hx:Ev W n ns env x f)
  (hy:∀A s ρ σ Q,Rm n A->SR W σ s.heap->FR W ns ρ env σ s.heap->g ρ σ Q->wpAny W.M A (boolOp pos .Or (evalEach (y::r) env)) (K4 W σ s Q) (λ _ _=>False) s):
  Ev W n ns env (.BoolOp .Or (x::y::r) pos) (λ ρ σ Q=>f ρ σ λ x B4=>∃t,zJ B4 x=some t∧match t with|false=>g ρ B4 Q|true=>Q x B4):=λ A s ρ σ Q rm S F h=>by
 show wpAny _ _ (boolOp pos .Or (eval x env::eval y env::evalEach r env)) _ _ _
 rw[xI]
 refine B6 (Ev.bind hx rm S F h λ v I2 z B4 ⟨t,ht,q⟩ Y1 N5 U4 W6 Y7=>K4.eN W6 Y7 (B6 (T9 (B6 (K2 ?_)))))
 refine I7 (FW (Q:=λ c B9=>c=t∧B9=B4) N5 Y1 ht ⟨rfl,rfl⟩) (λ c fD p=>?_) λ _ _ z=>z
 intros p H6 hZ;generalize hZ.1=P4;clear ht;obtain rfl:=P4.1;obtain rfl:=P4.2;try clear P4;delta hZ hZ aR cD jA
 cases c with
 |false=>exact K4.eN cD jA (hy A fD ρ H6 Q rm aR (U4.eN N5 cD) q)
 |true=>exact D4 ⟨z,H6,q,Y1.V7 (cD.V7 N5),aR,cD,jA⟩
theorem mQ{op:BoolOp}{x:Expr}{r:List Expr}:allTrue op (x::r) env=(do
  match op,<-isTrue x env (eval x env)with
  |.And,false=>pure false
  |.Or,true=>pure true
  |_,_=>allTrue op r env):=rfl
theorem xK{op:BoolOp}{x:Expr}{f:T Bool}(hx:FQ W n ns env x f){A:Around}{s:Shared}{ρ:List PV}{σ:PH}{Q:Bool->PH->Prop}(rm:Rm n A)(S:SR W σ s.heap)(F:FR W ns ρ env σ s.heap)(h:f ρ σ Q):
  wpAny W.M A (allTrue op [x] env) (bU W σ s Q) (λ _ _=>False) s:=by
 rw[mQ]
 refine B6 (pC hx rm S F h λ t I2 B4 q N5 U4 W6 Y7=>?_)
 cases op<;>cases t<;>exact D4 ⟨B4,q,N5,W6,Y7⟩
theorem RE{x:Expr}{r:List Expr}{pos:Pos}{f g:T Bool}(hx:FQ W n ns env x f)
  (hy:∀A s ρ σ Q,Rm n A->SR W σ s.heap->FR W ns ρ env σ s.heap->g ρ σ Q->wpAny W.M A (allTrue .And r env) (bU W σ s Q) (λ _ _=>False) s):
  FQ W n ns env (.BoolOp .And (x::r) pos) (λ ρ σ Q=>f ρ σ λ t B4=>match t with|true=>g ρ B4 Q|false=>Q false B4):=λ A s ρ σ Q rm S F h=>by
 show wpAny _ _ (allTrue .And (x::r) env) _ _ _
 rw[mQ]
 refine B6 (pC hx rm S F h λ t I2 B4 q N5 U4 W6 Y7=>?_)
 cases t with
 |true=>exact bU.eN W6 Y7 (hy A I2 ρ B4 Q rm N5 U4 q)
 |false=>exact D4 ⟨B4,q,N5,W6,Y7⟩
theorem YT{x:Expr}{r:List Expr}{pos:Pos}{f g:T Bool}(hx:FQ W n ns env x f)
  (hy:∀A s ρ σ Q,Rm n A->SR W σ s.heap->FR W ns ρ env σ s.heap->g ρ σ Q->wpAny W.M A (allTrue .Or r env) (bU W σ s Q) (λ _ _=>False) s):
  FQ W n ns env (.BoolOp .Or (x::r) pos) (λ ρ σ Q=>f ρ σ λ t B4=>match t with|false=>g ρ B4 Q|true=>Q true B4):=λ A s ρ σ Q rm S F h=>by
 show wpAny _ _ (allTrue .Or (x::r) env) _ _ _
 rw[mQ]
 refine B6 (pC hx rm S F h λ t I2 B4 q N5 U4 W6 Y7=>?_)
 cases t with
 |false=>exact bU.eN W6 Y7 (hy A I2 ρ B4 Q rm N5 U4 q)
 |true=>exact D4 ⟨B4,q,N5,W6,Y7⟩
end
structure Nj(K:Frag)(C:Addr)(name:Str)(f:Addr):Prop where
 ga:findIn K (.ref C) "__getattribute__"=some (some (.builtin "object.__getattribute__"))
 gt:findIn K (.ref C) "__getattr__"=some none
 find:findIn K (.ref C) name=some (some (.ref f))
 fn:typeIn K (.ref f)=some (.type "function")
 keep:keepIn K (.ref f)=true
structure Wd.jL(W:Wd)(tb:fM):Prop where
 fld:∀C f,tb.fld C f=true->xM W.K C (Str.ofString f)
 H2:∀C f a,tb.H2 C f=some a->Nj W.K C (Str.ofString f) a
inductive mR(W:Wd):Value->Prop
 |builtin (i:String):mR W (.builtin i)
 |type (i:String):mR W (.type i)
 |ref {a:Addr}:keepIn W.K (.ref a)=true->mR W (.ref a)
def pL(W:Wd)(x:Str)(v:Value):Prop:=W.mg x=some v∨(W.mg x=none∧bootBuiltins x=some v∧x≠"__name__")
def NS(o:Expr):Prop:=∀(attr:Str) (env:Env) (whole:Sem Value),attributeBase o attr env whole=whole
section
variable{W:Wd}{n:Nat}{ns:List (Option Str)}{env:Env}{tb:fM}
theorem Em(hW:W.Ok){o:Expr}{a:Str}{f:String}{pos:Pos}{g:T PV}(ha:a=Str.ofString f)(hn:NS o)(ho:Ev W n ns env o g):
  Ev W n ns env (.Attribute o a pos) (λ ρ σ Q=>g ρ σ λ ov B4=>∃x,fld B4 ov f=some x∧Q x B4):=λ A s ρ σ Q rm S F h=>by
 subst ha
 show wpAny _ _ (do
   let o' <-attributeBase o (Str.ofString f) env (eval o env)
   standAt pos.atName
   let r <-holding [o'] (getAttr o' (Str.ofString f) true)
   letTemporaryGo o o' r
   pure r) _ _ _
 rw[hn]
 refine B6 (Ev.bind ho rm S F h λ v I2 x B4 ⟨y,hy,q⟩ Y1 N5 U4 W6 Y7=>B6 (T9 (B6 (K2 ?_))))
 refine I7 (NM hW N5 Y1 hy q) (λ r fD p=>?_) λ _ _ z=>z
 exact B6 (wpAny_letTemporaryGo (D4 (K4.step W6 Y7 p)))
theorem FY{value slice:Expr}{o i:Value}{T id:String}{A:Around}{s:Shared}{Q:Value->Shared->Prop}{E:Value->Shared->Prop}(hT:s.TypeIs o T)
  (hl:typeLookup (.type T) "__getitem__"=pure (some (.builtin id)))(h:wpAny W.M A (getItem o i) Q E s):wpAny W.M A (subscriptTail value slice o i) Q E s:=by
 unfold subscriptTail
 refine B6 ?_
 rw[getitemInPython_of_ne hT.not_modules]
 refine B6 (wpAny_specialOf hT hl ?_)
 have hs:∃l,subscripted slice false o i=operate l (getItem o i):=by
  clear h hl hT;cases slice<;>first|exact⟨_,rfl⟩|(cases step<;>exact⟨_,rfl⟩)
 intros hs l hs
 have fin:wpAny W.M A (subscripted slice false o i) (λ r aV=>wpAny W.M A (letTemporaryGo value o r>>=λ _=>pure r) Q E aV) E s:=by
  rw[hs]
  exact wpAny_operating (I7 h (λ r aV uB=>B6 (wpAny_letTemporaryGo (D4 uB))) λ _ _ x=>x)
 first
  |exact D4 (B6 fin)
  |exact B6 (D4 (B6 fin))
  |exact B6 fin
theorem SO{σ:PH}{s:Shared}{x y z:PV}{v:Value}(S:SR W σ s.heap)(rx:VR s.heap x v)(h:gE σ x y=some z):
  ∃T id,s.TypeIs v T∧typeLookup (.type T) "__getitem__"=pure (some (.builtin id)):=
 PG (C:=λ x _=>VR s.heap x v->∃T id,s.TypeIs v T∧typeLookup (.type T) "__getitem__"=pure (some (.builtin id))) h
  (λ a xs i e _ rx=>rx.tG (P:=λ v=>∃T id,s.TypeIs v T∧typeLookup (.type T) "__getitem__"=pure (some (.builtin id))) (let⟨vs,k,e1,_,_⟩:=S.list e;⟨"list",_,⟨_,e1,rfl⟩,slot_list_getitem.lookup⟩))
  (λ a es ep k e _ _ rx=>rx.tG (P:=λ v=>∃T id,s.TypeIs v T∧typeLookup (.type T) "__getitem__"=pure (some (.builtin id))) (let⟨ob,e1,r⟩:=S.dict e;⟨"dict",_,⟨_,e1,by clear e1;cases r<;>rfl⟩,slot_dict_getitem.lookup⟩))
  (λ xs i _ rx=>rx.xN (P:=λ v=>∃T id,s.TypeIs v T∧typeLookup (.type T) "__getitem__"=pure (some (.builtin id))) λ a vs t _ _=>⟨"tuple",_,t.typeIs,slot_tuple_getitem.lookup⟩) rx
theorem Lx{o i:Expr}{pos:Pos}{f g:T PV}(ho:Ev W n ns env o f)(hi:Ev W n ns env i g):
  Ev W n ns env (.Subscript o i pos) (λ ρ σ Q=>f ρ σ λ ov B4=>g ρ B4 λ iv H6=>∃x,gE H6 ov iv=some x∧Q x H6):=λ A s ρ σ Q rm S F h=>
 Subscript_ (Rx (B:=λ x y σ Q=>∃z,gE σ x y=some z∧Q z σ) ho hi (λ A s σ x y v u Q rm S rx ry q6=>by
  intros q6 z hZ;delta hZ hz q
  refine ee2.e (SO S rx hz) λ T id hZ=>?_;delta hZ hT hl
  exact FY hT hl (NL rm S rx ry hz q)) rm S F h)
theorem pW{h:Heap}{x:PV}{v:Value}{l:Option Int}(r:VR h x v)(e:Ga x=some l):IsPart v l:=by
 cases r with
 |none=>cases e;exact .none
 |int i t=>cases e;exact .int i t
 |_=>cases e
def Oi(W:Wd)(n:Nat)(ns:List (Option Str))(env:Env)(e:Option Expr)(f:T PV):Prop:=
 ∀A s ρ σ Q,Rm n A->SR W σ s.heap->FR W ns ρ env σ s.heap->f ρ σ Q->wpAny W.M A (valueOrNone (evalOpt e env)) (K4 W σ s Q) (λ _ _=>False) s
theorem YW:Oi W n ns env none (λ _ σ Q=>Q .none σ):=λ A s ρ σ Q _ S _ q=>D4 (K4.now S .none q ⟨_,rfl⟩)
theorem YV{e:Expr}{f:T PV}(h:Ev W n ns env e f):Oi W n ns env (some e) f:=h
theorem tO{v:Value}{l:Option Int}(p:IsPart v l):∃q:Option (Int×Tok),v=partValue q∧q.map (·.1)=l:=by
 cases p with
 |none=>exact⟨none,rfl,rfl⟩
 |int i t=>exact⟨some (i,t),rfl,rfl⟩
theorem SR.Qj{σ:PH}{h:Heap}(hW:W.Ok)(S:SR W σ h){a:Addr}{xs:List PV}(e:σ a=some (.list xs)∨a=W.xO∧xs=W.PL.map .int):∃vs:List Value,h.IsList a vs.toArray∧bP h xs vs∧xs.length<=2^25:=by
 rcases e with e|⟨rfl,rfl⟩
 ·refine ee2.e (S.list e) λ vs k hZ=>?_;delta hZ e1 r z
  exact⟨vs,Q3 e1,r,z⟩
 ·refine A0 (hW.bu) λ vs hZ=>?_;delta hZ e1 r z
  intros e1 o hZ;delta hZ ho Lg
  exact⟨vs,⟨o,S.keep _ _ ho,Lg⟩,r.V7 (.keeps S.keep),by rw[A8];lia⟩
theorem Lz(hW:W.Ok){o:Expr}{l u:Option Expr}{Vo pos:Pos}{f g h':T PV}(ho:Ev W n ns env o f)(hl:Oi W n ns env l g)(hu:Oi W n ns env u h'):
  Ev W n ns env (.Subscript o (.Slice l u none Vo) pos) (λ ρ σ Q=>f ρ σ λ ov B4=>g ρ B4 λ lv H6=>h' ρ H6 λ hv R9=>Pk W R9 lv hv Q ov):=λ A s ρ σ Q rm S F h=>by
 refine Subscript_ (Ev.bind ho rm S F h λ vo I2 x B4 xP Y1 N5 U4 W6 Y7=>?_)
 show wpAny _ _ (do
   let l <-valueOrNone (evalOpt l env)
   let u <-holding [l] (valueOrNone (evalOpt u env))
   let s <-holding [l,u] (valueOrNone (evalOpt none env))
   newFields "slice" [l,u,s]) _ _ _
 refine B6 (I7 (hl A I2 ρ B4 _ rm N5 U4 xP) (λ vl fD q5=>?_) λ _ _ z=>z)
 intros q5 lv H6 hZ;delta hZ lB tB aR cD jA
 refine B6 (K2 (I7 (hu A fD ρ H6 _ rm aR (U4.eN N5 cD) lB) (λ vu aV p9=>?_) λ _ _ z=>z))
 intros p9 hv R9 hZ;delta hZ MG ST eK gS yH
 refine B6 (K2 (D4 ?_))
 refine aK ?_
 have k:=Q6 aV.heap ⟨.type "slice",none,.fields #[vl,vu,.none],#[]⟩
 have CM:=eK.keeps k
 have uN:kC R9 aV.heap R9 (aV.heap.push ⟨.type "slice",none,.fields #[vl,vu,.none],#[]⟩):=.keeps k
 have st:kC σ s.heap R9 (aV.heap.push ⟨.type "slice",none,.fields #[vl,vu,.none],#[]⟩):=((W6.trans cD).trans gS).trans uN
 have ro:=Y1.V7 (((cD.trans gS).trans uN).V7 N5)
 have rl:=tB.V7 ((gS.trans uN).V7 aR)
 have ru:=ST.V7 (uN.V7 eK)
 have hs:(aV.heap.push ⟨.type "slice",none,.fields #[vl,vu,.none],#[]⟩).get? aV.heap.objs.size=some ⟨.type "slice",none,.fields #[vl,vu,.none],#[]⟩:=N6 _ rfl
 have sm:Sm s {aV with heap:=aV.heap.push ⟨.type "slice",none,.fields #[vl,vu,.none],#[]⟩}:=((Y7.trans jA).trans yH).trans ⟨_,aV.toks,rfl⟩
 generalize hH:aV.heap.push ⟨.type "slice",none,.fields #[vl,vu,.none],#[]⟩=H at*
 clear U4 S N5 aR eK Y7 jA yH h hl ho hu pos xP lB rm Y1 tB ST W6 cD gS uN B4 H6;cases ro with
 |ref a=>
  intros MG xs l' h' hZ;delta hZ e el eh nl nh hz q
  refine A0 (CM.Qj hW e) λ vs hZ=>?_;delta hZ g1 rr
  have ll:=rr.length
  refine FY (s:={aV with heap:=H}) (T:="list") g1.typeIs slot_list_getitem.lookup (K4.eN (I2:={aV with heap:=H}) st sm ?_)
  refine wpAny_getItem_list_slice (s:={aV with heap:=H}) g1 ⟨_,hs,rfl,rfl⟩ (pW rl el) (pW ru eh) .none (by simp) ?_ (by rw[H1,K0];lia)
  rw[GD _ _ _ nl nh]
  refine K4.alloc (s:={aV with heap:=H}) (o:=.list (fE xs l' h')) CM (.list ?_ ?_) q
  ·have:=(rr.take (Qz h' xs.length)).drop (Qi l')
   unfold fE
   rw[ll]
   exact this.V7 (.keeps (Q6 _ _))
  ·unfold fE;rw[U7,Y2];exact A9 (Nat.sub_le ..) (A9 (Nat.min_le_right ..) (A9 hz (C3 rfl)))
 |str y t z=>
  intros MG l' h' hZ;delta hZ el eh q
  refine A0 (tO (pW rl el)) λ pl hZ=>?_;clear el f g hW rl fD;obtain rfl:=hZ.1;obtain rfl:=hZ.2;try clear hZ
  refine A0 (tO (pW ru eh)) λ pu hZ=>?_;clear eh ru;obtain rfl:=hZ.1;obtain rfl:=hZ.2;try clear hZ
  refine FY (s:={aV with heap:=H}) (T:="str") (typeIs_str _ _ _) PySem.F.slot_str_getitem.lookup (K4.eN (I2:={aV with heap:=H}) st sm ?_)
  refine wpAny_getItem_str_slice (s:={aV with heap:=H}) (l:=pl) (u:=pu) (st:=none) ⟨_,hs,rfl,rfl⟩ rfl ?_
  exact post_val_or_str ⟨A9 (Txt.slice_le y _ _) z,λ t' k=>K4.now (s:={aV with heap:=H}) CM (.str _ _ (A9 (Txt.slice_le y _ _) z)) q ⟨k,rfl⟩⟩
 |_=>exact MG.elim
end
def rH:Expr->Bool
 |.Starred .. =>false
 |_=>true
theorem qK{e:Expr}{r:List Expr}{env:Env}(h:rH e=true):starEach (e::r) env=(false,eval e env)::starEach r env:=by
 cases e<;>first|rfl|cases h
section
variable{W:Wd}{n:Nat}{ns:List (Option Str)}{env:Env}{tb:fM}
def UW(W:Wd)(n:Nat)(ns:List (Option Str))(env:Env)(es:List Expr)(f:T (List PV)):Prop:=
 (starEach es env).all (λ x=>!x.1)=true∧∀A s ρ σ Q pos,Rm n A->SR W σ s.heap->FR W ns ρ env σ s.heap->f ρ σ Q->
  wpAny W.M A (spliced (backTo pos (starEach es env))) (λ vs s'=>∃xs B9,Q xs B9∧xs.length=es.length∧bP s'.heap xs vs∧SR W B9 s'.heap∧kC σ s.heap B9 s'.heap∧Sm s s') (λ _ _=>False) s
theorem RF:UW W n ns env [] (λ _ σ Q=>Q [] σ):=⟨rfl,λ A s ρ σ Q pos _ S _ q=>spliced_nil ⟨[],σ,q,rfl,.nil,S,.refl _ _,.refl _⟩⟩
theorem KJ{pos:Pos}{t:Sem Value}{r:List (Bool×Sem Value)}:backTo pos ((false,t)::r)=(false,t)::backTo pos r:=rfl
theorem JZ{e:Expr}{r:List Expr}{f:T PV}{g:T (List PV)}(hp:rH e=true)(he:Ev W n ns env e f)(hr:UW W n ns env r g):
  UW W n ns env (e::r) (λ ρ σ Q=>f ρ σ λ x B4=>g ρ B4 λ xs H6=>Q (x::xs) H6):=by
 refine⟨by rw[qK hp,dF,hr.1];rfl,λ A s ρ σ Q pos rm S F h=>?_⟩
 rw[qK hp,KJ]
 refine spliced_cons (Ev.bind he rm S F h λ v I2 x B4 xP Y1 N5 U4 W6 Y7=>?_)
 refine I7 (hr.2 A I2 ρ B4 _ pos rm N5 U4 xP) (λ vs fD p8=>?_) λ _ _ z=>z
 intros p8 xs H6 hZ;delta hZ lB l₂ tB aR cD jA
 exact⟨x::xs,H6,lB,by simp[l₂],.cons (Y1.V7 (cD.V7 N5)) tB,aR,W6.trans cD,Y7.trans jA⟩
theorem Lw{es:List Expr}{k:Nat}{pos:Pos}{f:T (List PV)}(h:UW W n ns env es f)(hz:es.length<=1000):
  Ev W n ns env (.Tuple es k pos) (λ ρ σ Q=>f ρ σ λ xs B4=>Q (.tup xs) B4):=λ A s ρ σ Q rm S F q=>
 Tuple_ (I7 (h.2 A s ρ σ _ pos rm S F q) (λ vs I2 p7=>by
  intros p7 xs B4 hZ;delta hZ xP hl Y1 N5 W6 Y7
  have l:=Y1.length
  refine aK ?_ (by show vs.toArray.size<=sizeLine;rw[H1,K0];lia)
  have k:=Q6 I2.heap ⟨.type "tuple",none,.seq vs.toArray 0,#[]⟩
  exact⟨.tup xs,B4,xP,.tup ⟨_,N6 _ rfl,rfl,0,rfl⟩ (Y1.V7 (.keeps k)) (by lia),N5.keeps k,W6.trans (.keeps k),Y7.trans ⟨_,I2.toks,rfl⟩⟩) λ _ _ z=>z)
theorem Ei{es:List Expr}{pos:Pos}{f:T (List PV)}(h:UW W n ns env es f)(hz:es.length<=1000):
  Ev W n ns env (.List es pos) (λ ρ σ Q=>f ρ σ λ xs B4=>∀c,B4 c=none->Q (.ref c) (B4.set c (.list xs))):=λ A s ρ σ Q rm S F q=>
 List_ (I7 (h.2 A s ρ σ _ pos rm S F q) (λ vs I2 p6=>by
  intros p6 xs B4 hZ;delta hZ xP hl Y1 N5 W6 Y7
  have l:=Y1.length
  refine aK ?_ (by show vs.toArray.size<=sizeLine;rw[H1,K0];lia)
  exact K4.step W6 Y7 (K4.alloc (o:=.list xs) (ob:=⟨.type "list",none,.seq vs.toArray 0,#[]⟩) N5 (.list (Y1.V7 (.keeps (Q6 _ _))) (by lia)) xP)) λ _ _ z=>z)
theorem YQ{pos:Pos}:Ev W n ns env (.Dict [] [] pos) (λ _ σ Q=>∀c,σ c=none->Q (.ref c) (σ.set c (.dict [] 0))):=λ A s ρ σ Q rm S F q=>by
 show wpAny _ _ (do standAt pos;dictDisplay []) _ _ _
 rw[show(do standAt pos;dictDisplay []:Sem Value)=(do standAt pos;newDict)from rfl]
 refine B6 (T9 ?_)
 unfold newDict
 refine aK ?_
 exact K4.alloc (o:=.dict [] 0) (ob:=⟨.type "dict",none,.dict #[] 0,#[]⟩) S (.dict (.i .nil (λ e he=>by simp at he) .nil .nil)) q
theorem mJ{f:Value}{args:List (Bool×Sem Value)}{A:Around}{s:Shared}{Q:Args->Shared->Prop}{E:Value->Shared->Prop}(ha:args.any (·.1)=false)
  (h:wpAny W.M A (spliced args) (λ vs s'=>Q ⟨vs,[]⟩ s') E s):wpAny W.M A (evalArgs f true args []) Q E s:=by
 cases args with
 |nil=>
  unfold evalArgs
  show wpAny W.M A (spliced []>>=_) Q E s
  refine B6 (I7 h (λ vs s' h'=>?_) λ _ _ x=>x)
  refine B6 (D4 (K2 (B6 (D4 (B6 (D4 (D4 h')))))))
 |cons a r=>
  obtain⟨b,x⟩:=a
  cases b with
  |false=>exact evalArgs_plain h
  |true=>simp at ha
theorem Im{pos:Pos}{f:Value}{first:List Value}{es:List Expr}{g:T (List PV)}{A:Around}{s:Shared}{ρ:List PV}{σ:PH}{Q:PV->PH->Prop}(hW:W.Ok)(hk:mR W f)(hs:UW W n ns env es g)(rm:Rm n A)(S:SR W σ s.heap)(F:FR W ns ρ env σ s.heap)
  {fx:List PV}(rf:bP s.heap fx first)(h:g ρ σ λ xs B4=>J9 W n f (fx++xs) B4 Q):
  wpAny W.M A (callWith pos f first (backTo pos (starEach es env)) []) (K4 W σ s Q) (λ _ _=>False) s:=by
 have hp:(backTo pos (starEach es env)).any (·.1)=false:=by
  unfold backTo
  rw[nP]
  have:=hs.1
  rw[G3]at this
  rw[List.any_eq_false]
  intro x hx
  have:=this x hx
  simpa using this
 refine callWith_of (P:=λ h=>W.K.In h) (by rw[hp];rfl) (λ hh X=>?_) (mJ hp ?_)
 ·clear h;cases hk with
  |builtin i=>exact⟨.machine,.inr (.inl rfl),.now⟩
  |type i=>exact⟨.machine,.inr (.inl rfl),.now⟩
  |ref k=>exact keeps_K k hh X
 ·refine I7 (hs.2 A s ρ σ _ pos rm S F h) (λ vs I2 ⟨xs,B4,xP,l₁,Y1,N5,W6,Y7⟩=>⟨hW.ID.keeps N5.keep,?_⟩) λ _ _ z=>z
  exact K4.eN W6 Y7 (xP A I2 _ rm N5 ((rf.V7 (W6.V7 S)).append Y1))
theorem Wd.Ok.glob(hW:W.Ok){x:Str}{v:Value}{pos:Pos}{A:Around}{s:Shared}{σ:PH}{R:Value->Shared->Prop}(hE:U5 env)(hk:env.kindOf x=some .globalImplicit)(hd:(x==("__debug__":Str))=false)
  (S:SR W σ s.heap)(g:pL W x v)(h:R v s):wpAny W.M A (eval (.Name x pos) env) R (λ _ _=>False) s:=by
 refine Name_function_global hE.kind hk ?_ hd
 rcases g with g|⟨g1,g2,g3⟩
 ·exact loadGlobal_global (mg:=W.mg) (by rw[hE.glob];exact hW.g.keeps S.keep) g h
 ·exact loadGlobal_builtin (mg:=W.mg) (mb:=W.mb) (by rw[hE.glob];exact hW.g.keeps S.keep) g1 (by rw[hE.blt];exact hW.b.keeps S.keep) ((hW.bi x g3).trans g2) h
theorem Rw(hW:W.Ok){x:Str}{i:Int}{t:Tok}{pos:Pos}(hE:U5 env)(hk:env.kindOf x=some .globalImplicit)(hd:(x==("__debug__":Str))=false)(g:pL W x (.int i t)):
  Ev W n ns env (.Name x pos) (λ _ σ Q=>Q (.int i) σ):=λ A s ρ σ Q rm S F h=>hW.glob hE hk hd S g (K4.now S (.int i t) h ⟨_,rfl⟩)
theorem Ek(hW:W.Ok){x:Str}{f:Value}{p pos:Pos}{es:List Expr}{g:T (List PV)}(hE:U5 env)(hk:env.kindOf x=some .globalImplicit)(hd:(x==("__debug__":Str))=false)(gl:pL W x f)(kp:mR W f)(hs:UW W n ns env es g):
  Ev W n ns env (.Call (.Name x p) es [] pos) (λ ρ σ Q=>g ρ σ λ xs B4=>J9 W n f xs B4 Q):=λ A s ρ σ Q rm S F h=>by
 show wpAny _ _ (do callWith pos (<-eval (.Name x p) env) [] (backTo pos (starEach es env)) (backToKw pos [])) _ _ _
 refine B6 (hW.glob hE hk hd S gl ?_)
 exact Im hW kp hs rm S F .nil h
theorem eA{α:Type}{l:List (String×α)}{f:String}{x:α}(h:l.lookup f=some x):(f,x)∈l:=by
 induction l with
 |nil=>cases h
 |cons p r ih=>
  obtain⟨g,y⟩:=p
  rw[I1]at h
  split at h
  ·rename_i e;cases h;rw[eq_of_beq e];exact .head _
  ·exact .tail _ (ih h)
structure BM(T f id:String):Prop where
 slot:Slot T (Str.ofString f) id
 ty:typeOf (.builtin id)=pure (.type "method_descriptor")
theorem Gb{f id:String}(h:QF.lookup f=some id):BM "list" f id:=by
 have:=eA h
 simp only[QF,F8,Prod.mk.injEq,eQ,or_false]at this
 clear h;rcases this with⟨rfl,rfl⟩|⟨rfl,rfl⟩|⟨rfl,rfl⟩|⟨rfl,rfl⟩|⟨rfl,rfl⟩
 ·exact⟨PySem.F.slot_list_append,PySem.F.type_list_append⟩
 ·exact⟨PySem.F.slot_list_extend,PySem.F.type_list_extend⟩
 ·exact⟨PySem.F.slot_list_insert,PySem.F.type_list_insert⟩
 ·exact⟨PySem.F.slot_list_pop,PySem.F.type_list_pop⟩
 ·exact⟨PySem.F.slot_list_index,PySem.F.type_list_index⟩
theorem Gc{f id:String}(h:HJ.lookup f=some id):BM "dict" f id:=by
 have:=eA h
 simp only[HJ,F8,Prod.mk.injEq,eQ,or_false]at this
 clear h;obtain rfl:=this.1;obtain rfl:=this.2;try clear this
 exact⟨jC,PySem.F.type_dict_get⟩
theorem Ms{f id:String}(h:GC.lookup f=some id):BM "str" f id:=by
 have:=eA h
 simp only[GC,F8,Prod.mk.injEq,eQ,or_false]at this
 clear h;rcases this with⟨rfl,rfl⟩|⟨rfl,rfl⟩|⟨rfl,rfl⟩|⟨rfl,rfl⟩|⟨rfl,rfl⟩|⟨rfl,rfl⟩
 ·exact⟨PySem.F.slot_str_join,PySem.F.type_str_join⟩
 ·exact⟨PySem.F.slot_str_ljust,PySem.F.type_str_ljust⟩
 ·exact⟨PySem.F.slot_str_strip,PySem.F.type_str_strip⟩
 ·exact⟨PySem.F.slot_str_find,PySem.F.type_str_find⟩
 ·exact⟨PySem.F.slot_str_startswith,PySem.F.type_str_startswith⟩
 ·exact⟨hJ,PySem.F.type_str_split⟩
def MethAt(W:Wd)(f:String)(fv:Value)(A:Around)(s:Shared)(pl:Sem Bool)(R:Value×List Value->Shared->Prop)(v:Value):Prop:=R (fv,[v]) s->mR W fv∧wpAny W.M A (getMethod v (Str.ofString f) pl) R (λ _ _=>False) s
theorem Cp(hW:W.Ok)(hT:W.jL tb){x:PV}{v fv:Value}{f:String}{A:Around}{s:Shared}{σ:PH}{pl:Sem Bool}{R:Value×List Value->Shared->Prop}(S:SR W σ s.heap)(rx:VR s.heap x v)(h:dZ tb σ x f=some fv):MethAt W f fv A s pl R v:=
 dB (P:=λ x=>VR s.heap x v->MethAt W f fv A s pl R v) x h (λ h rx=>tR (P:=λ x=>VR s.heap x v->MethAt W f fv A s pl R v) x h no (λ y h rx=>rx.qD (P:=MethAt W f fv A s pl R) λ t z hR=>by
   refine A0 (O3.mp h) λ id hZ=>?_;generalize hZ.1=h1;clear h;obtain rfl:=hZ.2;try clear hZ
   have b:=Ms h1
   exact⟨.builtin _,getMethod_builtin (typeIs_str _ _ _) PySem.F.plainAttrs_str b.slot b.ty (λ b e2=>by cases e2) hR⟩) rx)
  (λ a h rx=>rx.tG (P:=MethAt W f fv A s pl R)<|AT (P:=λ o=>σ a=o->MethAt W f fv A s pl R (.ref a)) (σ a) h
   (λ h e=>lE (P:=λ o=>σ a=o->MethAt W f fv A s pl R (.ref a)) (σ a) h (λ h e=>dC (P:=λ o=>σ a=o->MethAt W f fv A s pl R (.ref a)) (σ a) h no (λ xs h e hR=>by
     refine ee2.e (S.list e) λ vs k hZ=>?_;obtain⟨e1,_⟩:=hZ
     refine A0 (O3.mp h) λ id hZ=>?_;generalize hZ.1=h1;clear h;obtain rfl:=hZ.2;try clear hZ
     have b:=Gb h1
     exact⟨.builtin _,getMethod_builtin ⟨_,e1,rfl⟩ PySem.F.plainAttrs_list b.slot b.ty (λ b e2=>by cases e2;exact⟨_,e1,rfl⟩) hR⟩) e)
    (λ es ep h e hR=>by
     refine A0 (S.dict e) λ ob hZ=>?_;delta hZ e1 r
     refine A0 (O3.mp h) λ id hZ=>?_;generalize hZ.1=h1;clear h;obtain rfl:=hZ.2;try clear hZ
     have b:=Gc h1
     exact⟨.builtin _,getMethod_builtin (T:="dict") ⟨_,e1,by clear e1;cases r<;>rfl⟩ PySem.F.plainAttrs_dict b.slot b.ty (λ b e2=>by cases e2;exact⟨_,e1,by clear e1;cases r<;>rfl⟩) hR⟩) e)
   (λ C dx h e=>AU (P:=λ o=>σ dx=o->MethAt W f fv A s pl R (.ref a)) (σ dx) h no (λ D fs h e' hR=>by
    have hZ:=VA h;delta hZ hD h
    have hZ:=VA h;delta hZ hf h
    subst hD
    refine A0 (O3.mp h) λ fa hZ=>?_;generalize hZ.1=h1;clear h;clear h;obtain rfl:=hZ.2;try clear hZ
    have mo:=hT.H2 _ _ _ h1
    refine ee2.e (S.inst e e') λ es k hZ=>?_;delta hZ r e1 I
    refine⟨.ref mo.keep,method_fn (hW.ID.keeps S.keep) I mo.ga mo.gt mo.find mo.fn ?_ hR⟩
    clear A I S e e' e1 h h1 hR hT hW mo pl;rcases r.getL f with⟨_,z⟩|⟨y,v,z,_⟩
    ·unfold shadowIn;dsimp only;rw[lookIn_dict,z];rfl
    ·rw[z]at hf;cases hf) rfl) rfl) rx
theorem Eh(hW:W.Ok)(hT:W.jL tb){o:Expr}{a:Str}{f:String}{apos pos:Pos}{es:List Expr}{fo:T PV}{g:T (List PV)}(ha:a=Str.ofString f)(hn:NS o)(hl:(apos.endLine==pos.line)=true)(hz:es.length<20)
  (ho:Ev W n ns env o fo)(hs:UW W n ns env es g):
  Ev W n ns env (.Call (.Attribute o a apos) es [] pos) (λ ρ σ Q=>fo ρ σ λ ov B4=>∃fv,dZ tb B4 ov f=some fv∧g ρ B4 λ xs H6=>J9 W n fv (ov::xs) H6 Q):=λ A s ρ σ Q rm S F h=>by
 subst ha
 rw[arm_eval_Call,hn]
 refine B6 (Ev.bind ho rm S F h λ v I2 x B4 ⟨fv,hf,q⟩ Y1 N5 U4 W6 Y7=>B6 (T9 ?_))
 have XT:methodCallForm (es.length+([]:List Keyword).length) (backTo pos (starEach es env)) (backToKw pos (keywordEach [] env))=true:=by
  have:(backTo pos (starEach es env)).all (λ x=>!x.1)=true:=by
   have:=hs.1
   unfold backTo
   rw[cS]
   rw[G3]at this ⊢
   intro x hx
   exact this x hx
  unfold methodCallForm
  rw[this]
  show(true&&(true&&decide (es.length+0+0<30)))=true
  simp;lia
 unfold methodCall
 rw[XT]
 have mk:=Cp (A:=A) (pl:=do return (<-importBound o env).getD true) (R:=λ p s'=>p=(fv,[v])∧s'=I2) hW hT N5 Y1 hf ⟨rfl,rfl⟩
 refine B6 (K2 (I7 mk.2 (λ p s' hp=>?_) λ _ _ z=>z))
 obtain rfl:=hp.1;obtain rfl:=hp.2;try clear hp
 unfold methodCallPos
 rw[hl]
 refine B6 (D4 ?_)
 exact K4.eN W6 Y7 (Im hW mk.1 hs rm N5 U4 (fx:=[x]) (.cons Y1 .nil) q)
end
abbrev Fa(es:Array DictEntry)(n:Nat):Obj:=⟨.type "dict",none,.dict es n,#[]⟩
section
variable{W:Wd}{A:Around}{E:Value->Shared->Prop}{s:Shared}
theorem Qn{d:Addr}{es:Array DictEntry}{n:Nat}{Q:Value->Shared->Prop}(hd:(d==sysModules)=false)(ho:s.heap.get? d=some (Fa es n))
  (hQ:Q (.ref s.heap.objs.size) {s with heap:=s.heap.push {cls:=.type "dict_keyiterator",data:=.fields #[.ref d,.int 0 0,.int es.size 0,.int n 0]}}):wpAny (model W.prog W.w) A (pyIter (.ref d)) Q E s:=by
 have hT:s.TypeIs (.ref d) "dict":=⟨_,ho,rfl⟩
 refine wpAny_pyIter_slot hT PySem.F.slot_dict_iter (cY PySem.F.slot_dict_iter hT PySem.F.entry_dict_iter ?_ (PySem.F.args_dict_iter_1 _))
 unfold Builtin.«dict.__iter__»
 refine B6 ?_
 unfold Builtin.Dict.dictSlotNone
 refine B6 (wpAny_notOrdered_dict hT ?_)
 show wpAny _ _ (pure (Value.ref d)) _ _ s
 refine D4 ?_
 show wpAny _ _ (Builtin.Dict.showsAll d>>=_) _ _ s
 unfold Builtin.Dict.showsAll
 rw[G0 (by rw[hd];exact C5)]
 refine B6 (D4 ?_)
 refine B6 (wpAny_dictEntries ho rfl ?_)
 refine B6 (wpAny_dictEpoch ho rfl ?_)
 refine B6 (aK (D4 ⟨_,rfl,"dict_keyiterator",_,⟨_,N6 _ rfl,rfl⟩,V9.lookup,?_⟩))
 simpa[rawInt]using hQ
theorem MX{it d:Addr}{i n:Nat}{es:Array DictEntry}{Q:Option Value->Shared->Prop}(hit:s.heap.IsKeyIter it d i es.size n)(Qr:s.heap.get? d=some (Fa es n))(Xc:i<es.size)
  (hQ:∀h',h'.IsKeyIter it d (i+1) es.size n->Heap.SameBut it s.heap h'->Q (some es[i].key) {s with heap:=h'}):wpAny (model W.prog W.w) A (pyNext (.ref it)) Q E s:=by
 refine A0 (id hit) λ o hZ=>?_;generalize hZ.1=ho;generalize hZ.2=P4;delta P4 hc hd;try clear hZ
 unfold pyNext
 refine B6 (wpAny_attempt (wpAny_callSpecial?_slot (name:=Str.ofString "__next__") hit.typeIs V9
  (cY V9 hit.typeIs PySem.F.entry_dict_keyiterator_next ?_ (PySem.F.args_dict_keyiterator_next_1 _))))
 refine B6 (D4 ?_)
 refine B6 ?_
 refine B6 ?_
 first|refine B6 (dI hit.typeIs (D4 ?_))|refine B6 (gY hit.typeIs (D4 ?_))
 refine B6 (wpAny_fieldsOf ho hd ?_)
 have Le:Builtin.Dict_items.ownsTuple "dict_keyiterator"=false:=by decide
 simp -iota only[Le,cT,gZ]
 show wpAny _ _ (if(Value.ref d==Value.none)=true then _ else _) _ _ s
 rw[G0 (show ¬((Value.ref d==Value.none)=true)from C5)]
 refine B6 (D4 ?_)
 refine B6 (wpAny_dictEntries Qr rfl ?_)
 rw[G0 (by simp)]
 refine B6 (D4 ?_)
 refine B6 (wpAny_dictEpoch Qr rfl ?_)
 rw[G0 (by simp)]
 refine D4 ?_
 dsimp only
 simp -iota only[show ¬((i:Int)<0)from by lia,gZ,bA,qB Xc]
 refine B6 ?_
 first|refine B6 (dI hit.typeIs (D4 ?_))|refine B6 (gY hit.typeIs (D4 ?_))
 refine B6 (wpAny_isOneOf_keyiter hit.typeIs ?_)
 show wpAny _ _ (setField (.ref it) 1 (rawInt ((i:Int)+1))>>=_) _ _ s
 refine B6 (wpAny_setField ho hd (by simp) ?_)
 have Qy:(s.heap.update it (Obj.mapFields (·.setIfInBounds 1 (rawInt ((i:Int)+1))))).IsKeyIter it d (i+1) es.size n:=
  ⟨_,Heap.get?_update_self _ ho (Obj.isFreed_of_fields (Obj.data_mapFields hd _)),(Obj.cls_mapFields ..).trans hc,by rw[Obj.data_mapFields hd];simp[rawInt]⟩
 refine B6 (K2 ?_)
 refine B6 (wpAny_isOneOf_keyiter (s:={s with heap:=s.heap.update it (Obj.mapFields (·.setIfInBounds 1 (rawInt ((i:Int)+1))))}) Qy.typeIs ?_)
 show wpAny _ _ (pure es[i].key) _ _ _
 exact D4 (D4 ⟨_,rfl,D4 (hQ _ Qy (cX ..))⟩)
theorem TD{it d:Addr}{i n:Nat}{es:Array DictEntry}{Q:Option Value->Shared->Prop}(hh:A.handled=none)(hit:s.heap.IsKeyIter it d i es.size n)(Qr:s.heap.get? d=some (Fa es n))(am:es.size<=i)
  (hQ:∀h',Heap.ExtBut it s.heap h'->Q none {s with heap:=h'}):wpAny (model W.prog W.w) A (pyNext (.ref it)) Q E s:=by
 refine A0 (id hit) λ o hZ=>?_;generalize hZ.1=ho;generalize hZ.2=P4;delta P4 hc hd;try clear hZ
 unfold pyNext
 refine B6 (wpAny_attempt (wpAny_callSpecial?_slot (name:=Str.ofString "__next__") hit.typeIs V9
  (cY V9 hit.typeIs PySem.F.entry_dict_keyiterator_next ?_ (PySem.F.args_dict_keyiterator_next_1 _))))
 refine B6 (D4 ?_)
 refine B6 ?_
 refine B6 ?_
 first|refine B6 (dI hit.typeIs (D4 ?_))|refine B6 (gY hit.typeIs (D4 ?_))
 refine B6 (wpAny_fieldsOf ho hd ?_)
 have Le:Builtin.Dict_items.ownsTuple "dict_keyiterator"=false:=by decide
 simp -iota only[Le,cT,gZ]
 show wpAny _ _ (if(Value.ref d==Value.none)=true then _ else _) _ _ s
 rw[G0 (show ¬((Value.ref d==Value.none)=true)from C5)]
 refine B6 (D4 ?_)
 refine B6 (wpAny_dictEntries Qr rfl ?_)
 rw[G0 (by simp)]
 refine B6 (D4 ?_)
 refine B6 (wpAny_dictEpoch Qr rfl ?_)
 rw[G0 (by simp)]
 refine D4 ?_
 dsimp only
 simp -iota only[show ¬((i:Int)<0)from by lia,gZ,bA,Array.getElem?_eq_none am]
 refine B6 ?_
 first|refine B6 (dI hit.typeIs (D4 ?_))|refine B6 (gY hit.typeIs (D4 ?_))
 show wpAny _ _ (setField (.ref it) 0 .none>>=_) _ _ s
 refine B6 (wpAny_setField ho hd (by simp) ?_)
 show wpAny _ _ (newExc (.type "StopIteration") []>>=_) _ _ _
 refine B6 ?_
 simp -iota only[newExc,newTuple]
 refine B6 (aK ?_ (by size_fits))
 refine B6 (m:=firstArgMember _ _) (wpAny_of_eq (a:=Value.none) (by first|rfl|(simp only[firstArgMember];rfl)) ?_)
 refine aK ?_ (by size_fits)
 simp -iota only[raiseNew]
 refine B6 (wpAny_handled ?_)
 rw[show A.in1.handled=none from hh]
 refine B6 (D4 (wpAny_throw ?_))
 refine B6 (wpAny_isInstance (T:="StopIteration") (b:=true) ⟨_,N6 _ rfl,rfl⟩ isSubtype_stop ?_)
 exact D4 (hQ _ (((cX ..).extBut.push _).push _))
end
theorem ItemsAre.Tb{W:Wd}{h:Heap}{k:List Int}{l:List Value}(hi:PySem.ItemsAre W.ik k l):bP h (k.map .int) l:=by
 induction hi with
 |nil=>exact .nil
 |cons h1 _ ih=>
  refine A0 (Value.isInt_shape h1) λ t hZ=>?_;clear h1;obtain rfl:=hZ
  exact .cons (.int _ _) ih
theorem DR.obj{W:Wd}{h:Heap}{n:Nat}{es:List (PK×PV)}{ob:Obj}(x:DR W h n es ob)(hk:es.all (λ p=>!jU p.1)=true):∃ds:Array DictEntry,ob=Fa ds n∧bP h (es.map (·.1.pv)) (ds.toList.map (·.key)):=by
 cases x with
 |@i ds kvs kv b c d=>
  refine⟨ds,rfl,?_⟩
  clear d b
  generalize ds.toList=l at c
  induction kv generalizing l with
  |nil=>cases c;exact .nil
  |cons a b ih=>
   clear b;cases c with|cons c1 c2 c3=>
    simp only[dF,W2]at hk
    refine A0 (Value.isInt_shape c1) λ t e=>?_
    simp only[I6]
    rw[e]
    exact .cons (.int _ _) (ih hk.2 _ c3)
 |@s ds kvs kv b c d=>
  clear d b;cases kv with
  |nil=>
   have:ds=#[]:=by cases c':ds.toList with|nil=>simpa using c'|cons=>rw[c']at c;cases c
   clear c;subst this;exact⟨#[],rfl,.nil⟩
  |cons=>exact(C5 hk).elim
 |@t ds xs kt c d=>
  refine⟨ds,rfl,?_⟩
  rw[c]
  clear c d
  induction kt with
  |nil=>exact .nil
  |cons a b _ ih=>
   simp only[dF,W2]at hk
   refine A0 a.1 λ o Q0=>?_;intros Q0 items P4;intros P4 m fU;generalize fU.1=ho;generalize fU.2=nS;generalize nS.1=hc;generalize nS.2=uC;delta uC hd hi;try clear nS;try clear fU;delta a a hz
   refine .cons (.tup (vs:=items.toList) ⟨o,ho,hc,m,by simpa using hd⟩ ?_ (by simpa using hz)) (ih hk.2)
   exact ItemsAre.Tb hi
def OU(it:Addr)(h h':Heap):Prop:=∀b o,b≠it->h.get? b=some o->h'.get? b=some o
inductive rX(W:Wd)(σ:PH)(h:Heap)(it:Addr):PV->List PV->Prop
 |list {a:Addr} {xs:List PV} {i:Nat}:σ a=some (.list xs)->h.IsListIter it a i->rX W σ h it (.ref a) (xs.drop i)
 |tup {xs:List PV} {t:Addr} {vs:List Value} {i:Nat}:h.IsTuple t vs.toArray->bP h xs vs->h.IsTupleIter it t i->rX W σ h it (.tup xs) (xs.drop i)
 |rZ {lo hi x:Int} {left:Nat}:IsRangeIter h it x left 1->rX W σ h it (.rZ lo hi) ((List.range left).map λ k:Nat=>.int (x+(k:Int)))
 |dict {a:Addr} {es:List (PK×PV)} {n i:Nat}:σ a=some (.dict es n)->es.all (λ p=>!jU p.1)=true->h.IsKeyIter it a i es.length n->rX W σ h it (.ref a) ((es.map (·.1.pv)).drop i)
 |rev {a:Addr} {xs:List PV} {i:Nat}:σ a=some (.list xs)->h.IsRevIter it a ((i:Int) - 1)->i<=xs.length->rX W σ h it (.ref a) ((xs.take i).reverse)
section
variable{W:Wd}{n:Nat}{A:Around}{s:Shared}{σ:PH}
theorem rX.has{h:Heap}{it:Addr}{v:PV}{r:List PV}(x:rX W σ h it v r):∃o,h.get? it=some o∧cV o=false:=by
 cases x with
 |list e q=>intros q o hZ;generalize hZ.1=ho;generalize hZ.2=P4;delta P4 hc hd;try clear hZ;exact⟨o,ho,by simp[cV,hd,hc]⟩
 |tup e q z=>intros z o hZ;generalize hZ.1=ho;generalize hZ.2=P4;delta P4 hc hd;try clear hZ;exact⟨o,ho,by simp[cV,hd,hc]⟩
 |rZ q=>exact⟨_,q,rfl⟩
 |dict e k q=>intros q o hZ;generalize hZ.1=ho;generalize hZ.2=P4;delta P4 hc hd;try clear hZ;exact⟨o,ho,by simp[cV,hd,hc]⟩
 |rev e q z=>intros q o hZ;generalize hZ.1=ho;generalize hZ.2=P4;delta P4 hc hd;try clear hZ;exact⟨o,ho,by simp[cV,hd,hc]⟩
theorem M9.here(σ:PH):∀iv:PV,M9 σ iv σ
 |.ref _=>rfl
 |.none|.bool _|.int _|.str _|.tup _|.rZ _ _|.M7=>trivial
theorem M9.back{B4 B9:PH}:∀{iv:PV},M9 B4 iv σ->M9 B4 iv B9->M9 σ iv B9
 |.ref _,st,w=>Eq.trans w (Eq.symm st)
 |.none,_,_|.bool _,_,_|.int _,_,_|.str _,_,_|.tup _,_,_|.rZ _ _,_,_|.M7,_,_=>trivial
theorem rX.of{h h':Heap}{it:Addr}{pv:PV}{xs:List PV}{B9:PH}(x:rX W σ h it pv xs)(m:nT h h')(kp:∀o,h.get? it=some o->h'.get? it=some o)(st:M9 σ pv B9):rX W B9 h' it pv xs:=by
 cases x with
 |list e q=>exact .list (Eq.trans st e) (let⟨_,ho,r⟩:=q;⟨_,kp _ ho,r⟩)
 |tup e q z=>exact .tup (IsTuple.V7 m e) (q.V7 m) (let⟨_,ho,r⟩:=z;⟨_,kp _ ho,r⟩)
 |rZ q=>exact .rZ (kp _ q)
 |dict e k q=>exact .dict (Eq.trans st e) k (let⟨_,ho,r⟩:=q;⟨_,kp _ ho,r⟩)
 |rev e q z=>exact .rev (Eq.trans st e) (let⟨_,ho,r⟩:=q;⟨_,kp _ ho,r⟩) z
theorem rX.eN{B9:PH}{h h':Heap}{it:Addr}{pv:PV}{xs:List PV}(S:SR W σ h)(hi:σ it=none)(x:rX W σ h it pv xs)(t:kC σ h B9 h')(st:M9 σ pv B9):rX W B9 h' it pv xs:=x.of (t.V7 S) (λ o e=>(t.bO it o e hi).1) st
theorem SR.fK{h h':Heap}{it:Addr}{o:Obj}(S:SR W σ h)(hi:σ it=none)(hb:W.h₀.get? it=none)(e:h.get? it=some o)(ho:cV o=false)(k:OU it h h'):SR W σ h'∧nT h h':=by
 have m:nT h h':=λ a p e' i=>k a p (by clear k hb;rintro rfl;rw[e]at e';cases e';rw[ho]at i;cases i) e'
 refine⟨⟨λ a po e'=>?_,λ b p e'=>k b p (by clear k;rintro rfl;rw[hb]at e';cases e') (S.keep b p e'),S.new⟩,m⟩
 refine A0 (S.obj a po e') λ ob hZ=>?_;delta hZ e1 r
 exact⟨ob,k a ob (by clear k hb e;rintro rfl;rw[hi]at e';cases e') e1,r.V7 m⟩
theorem SameBut.fK{h h':Heap}{it:Addr}(x:Heap.SameBut it h h'):OU it h h':=λ b o n e=>(x.2 b n).trans e
theorem drop_cons{α:Type}{xs:List α}{i:Nat}{y:α}{r:List α}(e:xs.drop i=y::r):xs[i]? =some y∧xs.drop (i+1)=r:=by
 have h:i<xs.length:=by
  apply Nat.lt_of_not_le;intro q;rw[List.drop_of_length_le q]at e;cases e
 rw[eW h]at e
 injection e with e1 e2
 exact⟨by rw[C4 h,e1],e2⟩
theorem drop_nil{α:Type}{xs:List α}{i:Nat}(e:xs.drop i=[]):xs.length<=i:=by
 apply jO;intro h;rw[eW h]at e;cases e
theorem rX.next{it:Addr}{v:PV}{l:List PV}{R:Option Value->Shared->Prop}{E:Value->Shared->Prop}(rm:Rm n A)(S:SR W σ s.heap)(hi:σ it=none)(hb:W.h₀.get? it=none)(x:rX W σ s.heap it v l)
  (hc:∀y r,l=y::r->∀u h' tk,VR h' y u->rX W σ h' it v r->SR W σ h'->OU it s.heap h'->R (some u) {s with heap:=h',toks:=tk})
  (hn:l=[]->∀h' tk,SR W σ h'->OU it s.heap h'->R none {s with heap:=h',toks:=tk}):wpAny W.M A (pyNext (.ref it)) R E s:=by
 refine A0 (x.has) λ oi hZ=>?_;delta hZ ei ni
 cases hl:l with
 |nil=>
  have fin:∀h',Heap.ExtBut it s.heap h'->R none {s with heap:=h'}:=λ h' k=>hn hl h' s.toks (S.fK hi hb ei ni (λ b o n e=>k b o n e)).1 λ b o n e=>k b o n e
  clear hn;clear hc;cases x with
  |list e q=>
   refine ee2.e (S.list e) λ vs k hZ=>?_;delta hZ e1 r1 z
   have:=r1.length
   exact wpAny_pyNext_list_end rm.hd q (Q3 e1) (by have:=drop_nil hl;simp;lia) fin
  |tup t r1 q=>
   have:=r1.length
   exact wpAny_pyNext_tuple_end rm.hd q t (by have:=drop_nil hl;simp;lia) fin
  |@rZ lo hi x left q=>
   have:left=0:=by
    clear q;cases left with
    |zero=>rfl
    |succ k=>simp[aG]at hl
   subst this
   exact wpAny_pyNext_range_end rm.hd q (by simp) fin
  |dict e k q=>
   refine A0 (S.dict e) λ ob hZ=>?_;delta hZ e1 r
   refine A0 (r.obj k) λ ds hZ=>?_;clear r;obtain rfl:=hZ.1;delta hZ hZ rr
   have l1:=rr.length
   simp only[A8,bZ]at l1
   rw[<-l1]at q
   exact TD rm.hd q e1 (by have:=drop_nil hl;simp at this;lia) fin
  |@rev a xs i e q z=>
   refine ee2.e (S.list e) λ vs k hZ=>?_;delta hZ e1 r1
   have:i=0:=by
    have:=C7 List.length hl
    simp only[List.length_reverse,Y2,List.length_nil]at this;lia
   clear z;subst this
   exact wpAny_pyNext_rev_end rm.hd q fin
 |cons y r=>
  have fin:∀u h' tk,(∀Dk,nT s.heap Dk->VR Dk y u)->rX W σ h' it v r->Heap.SameBut it s.heap h'->R (some u) {s with heap:=h',toks:=tk}:=λ u h' tk ru ir k=>by
   have q:=S.fK hi hb ei ni (SameBut.fK k)
   exact hc y r hl u h' tk (ru _ q.2) ir q.1 (SameBut.fK k)
  clear hc hn rm;cases x with
  |@list a xs i e q=>
   refine ee2.e (S.list e) λ vs k hZ=>?_;delta hZ e1 r1 z
   have hZ:=drop_cons hl;delta hZ d1 d2
   refine A0 (r1.get d1) λ u hZ=>?_;delta hZ e2 r2
   exact wpAny_pyNext_list_item q (Q3 e1) (by simpa using e2) λ h' q' k=>fin u h' s.toks (λ _ m=>r2.V7 m) (d2▸.list e q') k
  |@tup xs t vs i ht r1 q=>
   have hZ:=drop_cons hl;delta hZ d1 d2
   refine A0 (r1.get d1) λ u hZ=>?_;delta hZ e2 r2
   refine wpAny_pyNext_tuple_item q ht (by simpa using e2) λ h' q' k=>fin u h' s.toks (λ _ m=>r2.V7 m) (d2▸?_) k
   have m:=(S.fK hi hb ei ni (SameBut.fK k)).2
   exact .tup (IsTuple.V7 m ht) (r1.V7 m) q'
  |@rZ lo XS x left q=>
   cases left with
   |zero=>simp at hl
   |succ k=>
    simp only[aG,I6,G2]at hl
    injection hl with h1 h2
    refine wpAny_pyNext_range_item q (by lia) λ h' q' sb=>?_
    refine fin _ h' _ (λ _ m=>?_) ?_ sb
    ·rw[<-h1];simpa using VR.int x s.toks
    ·rw[<-h2]
     have:IsRangeIter h' it (x+1) (k:Nat) 1:=by
      have e:((k+1:Nat):Int) - 1=(k:Int):=by lia
      rw[<-e];exact q'
     have:=rX.rZ (W:=W) (σ:=σ) (lo:=lo) (hi:=XS) this
     have e:((List.range k).map λ j:Nat=>PV.int (x+1+(j:Int)))=List.map ((λ j:Nat=>PV.int (x+(j:Int)))∘Nat.succ) (List.range k):=by
      apply P1;intro j _;simp only[Function.comp,Nat.succ_eq_add_one];congr 1;lia
     rw[<-e];exact this
  |@dict a es m i e k q=>
   refine A0 (S.dict e) λ ob hZ=>?_;delta hZ e1 r
   refine A0 (r.obj k) λ ds hZ=>?_;clear r;obtain rfl:=hZ.1;delta hZ hZ rr
   have hZ:=drop_cons hl;delta hZ d1 d2
   refine A0 (rr.get d1) λ u hZ=>?_;delta hZ e2 r2
   have l1:=rr.length
   simp only[A8,bZ]at l1
   have BK:i<ds.size:=by
    have:=(D3.mp e2).1
    simpa using this
   have eu:ds[i].key=u:=by
    rw[H9,Array.getElem?_toList,qB BK]at e2
    simpa using e2
   rw[<-l1]at q
   refine MX q e1 BK λ h' q' sb=>?_
   rw[eu]
   rw[l1]at q'
   exact fin u h' s.toks (λ _ m=>r2.V7 m) (d2▸.dict e k q') sb
  |@rev a xs i e q z=>
   refine ee2.e (S.list e) λ vs k hZ=>?_;delta hZ e1 r1
   cases i with
   |zero=>simp at hl
   |succ j=>
    have hj:j<xs.length:=by lia
    rw[List.take_succ_eq_append_getElem hj,List.reverse_append]at hl
    simp only[List.reverse_cons,List.reverse_nil,X6,P7]at hl
    injection hl with h1 h2
    refine A0 (r1.get (C4 hj)) λ u hZ=>?_;delta hZ e2 r2
    have q0:s.heap.IsRevIter it a (j:Int):=by
     have e:((j+1:Nat):Int) - 1=(j:Int):=by lia
     rw[<-e];exact q
    refine wpAny_pyNext_rev_item q0 (Q3 e1) (by simpa using e2) λ h' q' sb=>?_
    exact fin u h' s.toks (λ _ m=>h1▸r2.V7 m) (h2▸.rev e q' (by lia)) sb
end
section
variable{W:Wd}{n:Nat}{A:Around}{s:Shared}{σ:PH}{E:Value->Shared->Prop}
theorem rangeSize_one(lo hi:Int):Builtin.Range.rangeSize lo hi 1=(((hi - lo).toNat:Nat):Int):=by
 unfold Builtin.Range.rangeSize
 by_cases h:lo<hi
 ·rw[F7 (by decide),F7 h,Int.ediv_one];lia
 ·rw[F7 (by decide),G0 h];lia
theorem IX{lo hi:Int}(h1:IP lo)(h2:IP hi):Builtin.Range.small lo hi 1=true:=by
 unfold IP at h1 h2
 unfold Builtin.Range.small
 rw[rangeSize_one]
 unfold Builtin.Range.rangeFitsLong
 simp only[W2,Bool.or_eq_true,P8]
 refine⟨⟨⟨⟨⟨by lia,by lia⟩,⟨by lia,by lia⟩⟩,by lia,by lia⟩,⟨by lia,by lia⟩⟩,.inr ?_⟩
 rw[F7 (by decide)]
 simp only[W2,P8]
 exact⟨by lia,by lia⟩
theorem QL(hW:W.Ok){pv:PV}{v:Value}{xs:List PV}{Q:Value->Shared->Prop}(S:SR W σ s.heap)(r:VR s.heap pv v)(h:mF σ pv xs)
  (hQ:∀it h',σ it=none->W.h₀.get? it=none->s.heap.get? it=none->rX W σ h' it pv xs->(∀b o,s.heap.get? b=some o->h'.get? b=some o)->Q (.ref it) {s with heap:=h'}):
  wpAny W.M A (pyIter v) Q E s:=by
 have fr:s.heap.get? s.heap.objs.size=none:=W7 (D7 _)
 have fs:=S.fresh fr
 have fb:=S.fL fr
 have fin:∀ob:Obj,rX W σ (s.heap.push ob) s.heap.objs.size pv xs->Q (.ref s.heap.objs.size) {s with heap:=s.heap.push ob}:=λ ob hi=>hQ _ _ fs fb fr hi (Q6 _ _)
 delta h h1 h2 h3
 clear fb fr fs h2 hQ;cases r with
 |@tup ys a vs ht rs=>
  clear h3;cases h1
  refine wpAny_pyIter_tuple ht (fin _ ?_)
  have m:=Q6 s.heap {cls:=.type "tuple_iterator",data:=.fields #[.ref a,.int 0 0]}
  exact .tup (i:=0) (IsTuple.V7 (.keeps m) ht) (rs.V7 (.keeps m)) ⟨_,N6 _ rfl,rfl,rfl⟩
 |@rZ lo hi a t u v q=>
  cases h1
  refine wpAny_pyIter_range q (IX h3.1 h3.2) (fin _ ?_)
  rw[rangeSize_one]
  exact .rZ (N6 _ rfl)
 |ref a=>
  exact lE (P:=λ o=>σ a=o->wpAny W.M A (pyIter (.ref a)) Q E s) (σ a) h1 (λ h1 e=>dC (P:=λ o=>σ a=o->wpAny W.M A (pyIter (.ref a)) Q E s) (σ a) h1 no (λ ys h1 e=>by
    obtain rfl:ys=xs:=G8 h1
    refine ee2.e (S.list e) λ vs k hZ=>?_;delta hZ e1 r1 z
    exact wpAny_pyIter_list (Q3 e1) (fin _ (.list (i:=0) e ⟨_,N6 _ rfl,rfl,rfl⟩))) e)
   (λ es ep h1 e=>by
    have hZ:=VA h1;delta hZ hk h1
    obtain rfl:=G8 h1
    refine A0 (S.dict e) λ ob hZ=>?_;delta hZ e1 r1
    refine A0 (r1.obj hk) λ ds hZ=>?_;clear r1;obtain rfl:=hZ.1;delta hZ hZ rr
    have l1:=rr.length
    rw[A8,A8,bZ]at l1
    refine Qn (hW.vQ S e) e1 (fin _ (.dict (i:=0) e hk ?_))
    rw[<-l1]
    exact⟨_,N6 _ rfl,rfl,rfl⟩) rfl
 |_=>cases h1
theorem TG{it:Addr}{pv:PV}{xs:List PV}{Q:Value->Shared->Prop}(x:rX W σ s.heap it pv xs)(h:Q (.ref it) s):wpAny W.M A (pyIter (.ref it)) Q E s:=by
 cases x with
 |list e q=>exact wpAny_pyIter_listiter q h
 |tup e q z=>exact wpAny_pyIter_tupleiter z h
 |rZ q=>exact wpAny_pyIter_rangeiter q h
 |dict e k q=>exact wpAny_pyIter_keyiter q h
 |rev e q z=>exact wpAny_pyIter_revIter q h
end
structure fW(P:Addr->Prop)(σ:PH)(h:Heap)(B9:PH)(h':Heap):Prop where
 bO:∀b o,h.get? b=some o->σ b=none->¬P b->h'.get? b=some o∧B9 b=none
 IE:∀b,σ b≠none->B9 b≠none
theorem fW.refl(P:Addr->Prop)(σ:PH)(h:Heap):fW P σ h σ h:=⟨λ _ _ e n _=>⟨e,n⟩,λ _ e=>e⟩
theorem fW.trans{P:Addr->Prop}{σ B4 H6:PH}{h mH iO:Heap}(x:fW P σ h B4 mH)(y:fW P B4 mH H6 iO):fW P σ h H6 iO:=
 ⟨λ b o e n p=>let⟨e1,n1⟩:=x.bO b o e n p;y.bO b o e1 n1 p,λ b e=>y.IE b (x.IE b e)⟩
theorem fW.of{P:Addr->Prop}{σ B9:PH}{h h':Heap}(x:kC σ h B9 h'):fW P σ h B9 h':=⟨λ b o e n _=>x.bO b o e n,x.IE⟩
theorem fW.mono{P P':Addr->Prop}{σ B9:PH}{h h':Heap}(x:fW P σ h B9 h')(k:∀b,P b->P' b):fW P' σ h B9 h':=⟨λ b o e n p=>x.bO b o e n λ q=>p (k b q),x.IE⟩
def KZ(env:Env)(L:Bool)(b:Addr):Prop:=b=env.locals∨(L=false∧∃x,DK env x=some b)
theorem KZ.own{env:Env}{L:Bool}{b:Addr}(x:KZ env L b):rL env b:=x.imp id λ y=>y.2
abbrev IA(env:Env):=fW (rL env)
inductive Ar(ns:List (Option Str))(env:Env)(L:Bool):List Expr->List Nat->Prop
 |nil:Ar ns env L [] []
 |cons {x:Str} {p:Pos} {i:Nat} {es:List Expr} {is:List Nat}:ns[i]? =some (some x)->(env.kindOf x=some .local∨(L=false∧(x≠"__class__"∧env.kindOf x=some .cell)))->Ar ns env L es is->Ar ns env L (.Name x p::es) (i::is)
inductive Tg(ns:List (Option Str))(env:Env)(L:Bool):Expr->Nat->List Nat->Prop
 |one {x:Str} {p:Pos} {i:Nat}:ns[i]? =some (some x)->(env.kindOf x=some .local∨(L=false∧(x≠"__class__"∧env.kindOf x=some .cell)))->Tg ns env L (.Name x p) 0 [i]
 |tup {es:List Expr} {is:List Nat} {c:Nat} {p:Pos} {k:Nat}:Ar ns env L es is->es.length=k+1->Tg ns env L (.Tuple es c p) (k+1) is
section
variable{W:Wd}{n:Nat}{ns:List (Option Str)}{ρ:List PV}{env:Env}{A:Around}{s:Shared}{σ:PH}{E:Value->Shared->Prop}
theorem AQ{h:Heap}{b:Addr}{o:Obj}(F:FR W ns ρ env σ h)(hb:rL env b)(e:h.get? b=some o):cV o=false:=by
 rcases hb with rfl|⟨x,hx⟩
 ·refine A0 (F.val) λ m hZ=>?_;refine A0 hZ.1 λ o' P4=>?_;intros P4 es fU;intros fU ep sE;generalize sE.1=ho;generalize sE.2=uC;delta uC hd;try clear sE;try clear hZ
  rw[e]at ho;cases ho;simp[cV,hd]
 ·refine A0 (F.cells x b hx) λ v hZ=>?_;intros hZ o' Q0;delta Q0 ho hd
  rw[e]at ho;cases ho;simp[cV,hd]
theorem fW.V7{P:Addr->Prop}{B9:PH}{h h':Heap}(S:SR W σ h)(F:FR W ns ρ env σ h)(k:∀b,P b->rL env b)(x:fW P σ h B9 h'):nT h h':=λ a o e i=>by
 cases q:σ a with
 |none=>exact(x.bO a o e q λ p=>by have:=AQ F (k a p) e;rw[this]at i;cases i).1
 |some po=>
  refine A0 (S.obj a po q) λ ob hZ=>?_;delta hZ e' r
  rw[e]at e';cases e'
  rw[r.MV]at i;cases i
theorem SR.Pw{h h':Heap}{a:Addr}(S:SR W σ h)(F:FR W ns ρ env σ h)(ha:rL env a)(k:Heap.SameBut a h h'):SR W σ h'∧nT h h':=by
 have m:nT h h':=λ b p e' i=>(k.2 b (by clear k;rintro rfl;rw[AQ F ha e']at i;cases i)).trans e'
 refine⟨⟨λ b po e'=>?_,λ b p e'=>?_,S.new⟩,m⟩
 ·refine A0 (S.obj b po e') λ ob hZ=>?_;delta hZ e1 r
  exact⟨ob,(k.2 b (by clear k;rintro rfl;rw[(F.own b ha).1]at e';cases e')).trans e1,r.V7 m⟩
 ·exact(k.2 b (by clear k;rintro rfl;rw[(F.own b ha).2]at e';cases e')).trans (S.keep b p e')
theorem lH{α:Type}{l:List α}{i j:Nat}{a b:α}(h:(l.set i a)[j]? =some b):(i=j∧b=a)∨(i≠j∧l[j]? =some b):=by
 by_cases e:i=j
 ·subst e
  rw[List.getElem?_set_self']at h
  cases hl:l[i]? with
  |none=>rw[hl]at h;cases h
  |some c=>rw[hl]at h;simp at h;exact .inl ⟨rfl,h.symm⟩
 ·rw[List.getElem?_set_ne e]at h;exact .inr ⟨e,h⟩
theorem sW{L:Bool}(hE:U5 env){i:Nat}{x:Str}{pv:PV}{v:Value}{Q:Unit->Shared->Prop}(S:SR W σ s.heap)(F:FR W ns ρ env σ s.heap)(hi:ns[i]? =some (some x))
  (hk:env.kindOf x=some .local∨(L=false∧(x≠"__class__"∧env.kindOf x=some .cell)))(r:VR s.heap pv v)
  (hQ:∀h' tk,SR W σ h'->FR W ns (ρ.set i pv) env σ h'->fW (KZ env L) σ s.heap σ h'->Q () {s with heap:=h',toks:=tk}):wpAny W.M A (storeName env x v) Q E s:=by
 refine A0 (F.val) λ m hZ=>?_;delta hZ hn hv
 have BY:∀y c,DK env y=some c->c≠env.locals:=λ y c hc e=>by
  refine A0 (F.cells y c hc) λ v' hZ=>?_;intros hZ o Q0;delta Q0 ho hd
  intros hn o' hZ;intros hZ es Q0;intros Q0 ep P4;generalize P4.1=LE;generalize P4.2=sE;delta sE VC;try clear P4
  rw[e,LE]at ho;clear LE;cases ho;rw[VC]at hd;cases hd
 rcases hk with hl|⟨rfl,Qu,hl⟩
 ·refine wpAny_storeName_local hl hn (λ h' b7 sb=>?_) (by rw[hE.kind];rfl)
  have hZ:=SR.Pw S F (.inl rfl) sb;delta hZ S' im
  refine hQ h' _ S' ⟨⟨_,b7,λ j y pw a b c=>?_⟩,λ y c hc=>?_,F.inj,F.own,by rw[P0];exact F.len,F.nd⟩ ⟨λ b o e q p=>⟨(sb.2 b λ e'=>p (.inl e')).trans e,q⟩,λ _ e=>e⟩
  ·clear b7;clear hQ;rcases lH b with⟨rfl,rfl⟩|⟨ne,b⟩
   ·rw[hi]at a;cases a
    exact⟨v,r.V7 im,.inl ⟨hl,F7 rfl⟩⟩
   ·have xy:y≠x:=by clear hl;rintro rfl;exact ne (F.nd i j _ hi a)
    refine A0 (hv j y pw a b c) λ u hZ=>?_;delta hZ r1 q
    exact⟨u,r1.V7 im,q.imp (λ q=>⟨q.1,(G0 xy).trans q.2⟩) λ⟨k,c',e,hc⟩=>⟨k,c',e,hc.sameBut sb (BY y c' e)⟩⟩
  ·refine A0 (F.cells y c hc) λ u hu=>?_
   exact⟨u,hu.sameBut sb (BY y c hc)⟩
 ·refine A0 (hE.cls x Qu (.inl hl)) λ c hc=>?_
  refine A0 (F.cells x c hc) λ Ox XU=>?_
  refine wpAny_storeName_cell hE.kind hl (mK hc) XU λ h' VD sb=>?_
  have hZ:=SR.Pw S F (.inr ⟨x,hc⟩) sb;delta hZ S' im
  refine hQ h' s.toks S' ⟨⟨m,hn.sameBut sb (hM (BY x c hc)),λ j y pw a b c₂=>?_⟩,λ y c₂ QR=>?_,F.inj,F.own,by rw[P0];exact F.len,F.nd⟩ ⟨λ b o e q p=>⟨(sb.2 b λ e'=>p (.inr ⟨rfl,x,e'▸hc⟩)).trans e,q⟩,λ _ e=>e⟩
  ·clear S S' BY hE hQ XU hn Qu Ox;rcases lH b with⟨rfl,rfl⟩|⟨ne,b⟩
   ·rw[hi]at a;cases a
    exact⟨v,r.V7 im,.inr ⟨.inl hl,c,hc,VD⟩⟩
   ·have xy:y≠x:=by clear Q hl r;clear hc;rintro rfl;exact ne (F.nd i j _ hi a)
    refine A0 (hv j y pw a b c₂) λ u hZ=>?_;delta hZ r1 q
    exact⟨u,r1.V7 im,q.imp id λ⟨k,c',e,Ue⟩=>⟨k,c',e,Ue.sameBut sb λ e'=>xy (F.inj y x c' e (e'▸hc))⟩⟩
  ·by_cases e:c₂=c
   ·clear S S' BY hE hQ hc XU hi hl hn Qu hv i im m r Ox x;clear sb;subst e;exact⟨_,VD⟩
   ·refine A0 (F.cells y c₂ QR) λ u hu=>?_
    exact⟨u,hu.sameBut sb e⟩
theorem kA{L:Bool}(hE:U5 env){i:Nat}{x:Str}{p:Pos}{pv:PV}{v:Value}{Q:Unit->Shared->Prop}(S:SR W σ s.heap)(F:FR W ns ρ env σ s.heap)(hi:ns[i]? =some (some x))
  (hk:env.kindOf x=some .local∨(L=false∧(x≠"__class__"∧env.kindOf x=some .cell)))(r:VR s.heap pv v)
  (hQ:∀h' tk,SR W σ h'->FR W ns (ρ.set i pv) env σ h'->fW (KZ env L) σ s.heap σ h'->Q () {s with heap:=h',toks:=tk}):wpAny W.M A (assign (.Name x p) env v) Q E s:=
 wpAny_assign_Name (sW hE S F hi hk r hQ)
theorem KL{L:Bool}(hE:U5 env){es:List Expr}{is:List Nat}(tg:Ar ns env L es is):∀{ρ:List PV} {s:Shared} {xs:List PV} {vs:List Value} {Q:Unit->Shared->Prop},SR W σ s.heap->FR W ns ρ env σ s.heap->bP s.heap xs vs->xs.length=es.length->
  (∀h' tk,SR W σ h'->FR W ns (aO is xs ρ) env σ h'->fW (KZ env L) σ s.heap σ h'->Q () {s with heap:=h',toks:=tk})->wpAny W.M A (assignInOrder ((assignEach es env).map (·.2)) vs) Q E s:=by
 induction tg with
 |nil=>
  intro ρ s xs vs Q S F r l hQ
  cases r with
  |nil=>exact D4 (hQ s.heap s.toks S F (.refl _ _ _))
  |cons=>simp at l
 |@cons x p i es is hi hk _ ih=>
  intro ρ s xs vs Q S F r l hQ
  cases r with
  |nil=>simp at l
  |@cons pv v r6 Vh a b=>
   show wpAny _ _ (holding Vh (assign (.Name x p) env v)>>=λ _=>assignInOrder ((assignEach es env).map (·.2)) Vh) _ _ s
   refine B6 (K2 (kA hE S F hi hk a λ h' tk S' F' st=>?_))
   refine ih (s:={s with heap:=h',toks:=tk}) S' F' (b.V7 (st.V7 S F λ _=>KZ.own)) (by simpa using l) λ Dk Te Yn Ys Zd=>?_
   exact hQ Dk Te Yn Ys (st.trans Zd)
theorem TX{L:Bool}{es:List Expr}{is:List Nat}(tg:Ar ns env L es is):(assignEach es env).length=es.length∧(assignEach es env).findIdx? (·.1)=none:=by
 induction tg with
 |nil=>exact⟨rfl,rfl⟩
 |@cons x p i es is _ _ _ ih=>
  refine⟨?_,?_⟩
  ·show(_::assignEach es env).length=_
   simp[ih.1]
  ·show List.findIdx? _ ((false,assign (.Name x p) env)::assignEach es env)=none
   simp[List.findIdx?_cons,ih.2]
theorem pJ{L:Bool}(hE:U5 env){t:Expr}{k:Nat}{is:List Nat}(tg:Tg ns env L t k is){pv:PV}{ys:List PV}{v:Value}{Q:Unit->Shared->Prop}(rm:Rm n A)(S:SR W σ s.heap)(F:FR W ns ρ env σ s.heap)
  (r:VR s.heap pv v)(hb:eI k pv=some ys)
  (hQ:∀h' tk,SR W σ h'->FR W ns (aO is ys ρ) env σ h'->fW (KZ env L) σ s.heap σ h'->Q () {s with heap:=h',toks:=tk}):wpAny W.M A (assign t env v) Q E s:=by
 cases tg with
 |one hi hk=>cases hb;exact kA hE S F hi hk r λ h' tk S' F' st=>hQ h' tk S' F' st
 |@tup es is c p k tg hl=>
  simp only[eI]at hb
  cases r with
  |@tup xs a vs ht rs _=>
   simp only at hb
   split at hb
   ·rename_i hlen
    cases hb
    have l:=rs.length
    have hZ:=TX tg;delta hZ e1 e2
    refine wpAny_assign_Tuple rm.hd ht (by rw[e1,hl,H1,l];exact hlen.symm) e2 λ h' eb=>?_
    have kp:∀b o,s.heap.get? b=some o->h'.get? b=some o:=λ b o e=>eb b o (by rintro rfl;exact Nat.lt_irrefl _ (kM e)) e
    have S':=S.keeps kp
    refine KL (s:={s with heap:=h'}) hE tg S' (F.eN S (.keeps kp)) (rs.V7 (.keeps kp)) (by lia) λ Dk tk Yn Ys st=>?_
    exact hQ Dk tk Yn Ys ((fW.of (.keeps kp)).trans st)
   ·cases hb
  |_=>cases hb
theorem JQ{L:Bool}{t:Expr}{k:Nat}{is:List Nat}(tg:Tg ns env L t k is){it:Addr}{pv:PV}{l:List PV}{v:Value}{Q:Unit->Shared->Prop}(x:rX W σ s.heap it pv l)(h:Q () s):wpAny W.M A (letOwnedTupleGo t (.ref it) v) Q E s:=by
 cases tg with
 |one=>exact D4 h
 |tup=>
  have key:∃o vs T,s.heap.get? it=some o∧o.cls=.type T∧o.data=.fields vs∧(["enumerate","zip","dict_itemiterator","dict_reverseitemiterator","odict_iterator","itertools.zip_longest","itertools.pairwise"].contains T)=false:=by
   cases x with
   |list e q=>intros q o hZ;generalize hZ.1=ho;generalize hZ.2=P4;delta P4 hc hd;try clear hZ;exact⟨o,_,_,ho,hc,hd,by decide⟩
   |tup e q z=>intros z o hZ;generalize hZ.1=ho;generalize hZ.2=P4;delta P4 hc hd;try clear hZ;exact⟨o,_,_,ho,hc,hd,by decide⟩
   |rZ q=>exact⟨_,_,_,q,rfl,rfl,by decide⟩
   |dict e k q=>intros q o hZ;generalize hZ.1=ho;generalize hZ.2=P4;delta P4 hc hd;try clear hZ;exact⟨o,_,_,ho,hc,hd,by decide⟩
   |rev e q z=>intros q o hZ;generalize hZ.1=ho;generalize hZ.2=P4;delta P4 hc hd;try clear hZ;exact⟨o,_,_,ho,hc,hd,by decide⟩
  intros key o vs T hZ;delta hZ ho hc hd hT
  unfold letOwnedTupleGo
  cases v with
  |ref a=>
   refine B6 (wpAny_load ho ?_)
   rw[hc,hd]
   simp only[hT,Bool.false_and,cT,gZ]
   exact D4 h
  |_=>exact D4 h
end
section
variable{W:Wd}{n:Nat}{A:Around}{s:Shared}{σ:PH}{E:Value->Shared->Prop}
theorem HL{R:Result->Shared->Prop}{elt target iter:Expr}{ifs:List Expr}{scope:Scope}{pos:Pos}{it acc:Value}{env:Env}(I:Nat->Shared->Prop)
  (turn:∀n s,I n s->wpAny W.M A (pyNext it) (λ r I2=>match r with
   |none=>R (.ok .next) I2
   |some v=>wpAny W.M A (letOwnedTupleGo target it v) (λ _ VQ=>wpAny W.M A (assign target env v) (λ _ fD=>
     wpAny W.M A (forIn ifs true λ c r=>if r=true then do let ok <-isTrue c env (eval c env);pure (ForInStep.yield ok)else pure (ForInStep.yield r)) (λ ok aV=>
      if ok=true then wpAny W.M A (eval elt env) (λ x LS=>
       wpAny W.M A (call (.builtin "list.append") [acc,x]) (λ _ Bx=>∃m,And (m<n) (I m Bx)) (λ _ _=>False) LS) (λ _ _=>False) aV
      else ∃m,And (m<n) (I m aV)) (λ _ _=>False) fD) (λ _ _=>False) VQ) (λ _ _=>False) I2) (λ _ _=>False) s)
  (n:Nat)(h:I n s):codeAny W.M A (.compLoop (.ListComp elt [⟨target,iter,ifs,0⟩] scope pos) 0 it acc env) R s:=by
 refine codeAny_loop rfl I (λ n s hI=>?_) n h
 show wpAny _ A ((compTurn (.ListComp elt [⟨target,iter,ifs,0⟩] scope pos) 0 it acc env).onRaise (λ x=>do noteFrame x env;theTreesLotGoes x)) _ _ s
 refine wpAny_noted ?_
 rw[compTurn_list]
 refine B6 (T9 (B6 (I7 (turn n s hI) (λ r I2 mH=>?_) λ _ _ h'=>h'.elim)))
 cases r with
 |none=>exact D4 mH
 |some v=>
  refine B6 (I7 mH (λ _ VQ Qq=>?_) λ _ _ h'=>h'.elim)
  refine B6 (I7 Qq (λ _ fD iO=>B6 (I7 iO (λ ok aV uB=>?_) λ _ _ h'=>h'.elim)) λ _ _ h'=>h'.elim)
  cases ok with
  |false=>exact D4 ⟨rfl,uB⟩
  |true=>
   exact B6 (B6 (I7 uB (λ x LS Wp=>B6 (I7 Wp (λ _ Bx Wn=>D4 (D4 ⟨rfl,Wn⟩)) λ _ _ h'=>h'.elim)) λ _ _ h'=>h'.elim))
theorem cK{x y:Str}{c:Addr}{l:List (Str×Addr)}:List.lookup x ((y,c)::l)=if x=y then some c else List.lookup x l:=by
 rw[I1]
 by_cases q:x=y
 ·subst q;simp
 ·rw[G0 q]
  have:(x==y)=false:=by simpa using q
  rw[this]
theorem Sc{scope:Scope}{env:Env}(h:∀x,(x,NameKind.free)∈scope.names->∃c,env.cells.lookup x=some c):
  ∃cl,closureFor scope env=pure cl∧(∀x c,cl.lookup x=some c->env.cells.lookup x=some c)∧(∀x,(x,NameKind.free)∈scope.names->∃c,cl.lookup x=some c):=by
 have gen:∀(l:List (Str×NameKind)) (acc:List (Str×Addr)),(∀x,(x,NameKind.free)∈l->∃c,env.cells.lookup x=some c)->(∀x c,acc.lookup x=some c->env.cells.lookup x=some c)->
   ∃cl,(forIn l acc (λ x r=>(match x with
    |(name,kind)=>if kind==.free then do let y <-cellOf env name;pure (ForInStep.yield ((name,y)::r))else pure (ForInStep.yield r):Sem _)):Sem (List (Str×Addr)))=pure cl∧(∀x c,cl.lookup x=some c->env.cells.lookup x=some c)∧
    (∀x,((x,NameKind.free)∈l∨∃c,acc.lookup x=some c)->∃c,cl.lookup x=some c):=by
  intro l
  induction l with
  |nil=>intro acc _ h2;exact⟨acc,by rw[List.forIn_nil],h2,λ x hx=>hx.elim (λ q=>nomatch q) id⟩
  |cons p r ih=>
   obtain⟨y,k⟩:=p
   intro acc h1 h2
   rw[List.forIn_cons]
   by_cases hk:k=.free
   ·subst hk
    refine A0 (h1 y List.mem_cons_self) λ c hc=>?_
    have e:cellOf env y=pure c:=by unfold cellOf;rw[hc]
    obtain⟨cl,e1,e2,e3⟩:=ih ((y,c)::acc) (λ x hx=>h1 x (List.mem_cons_of_mem _ hx)) (λ x c' hx=>by
     rw[cK]at hx
     by_cases q:x=y
     ·subst q;rw[F7 rfl]at hx;rw[<-hx];exact hc
     ·rw[G0 q]at hx;exact h2 x c' hx)
    refine⟨cl,?_,e2,λ x hx=>?_⟩
    ·show((if(NameKind.free==NameKind.free)=true then(cellOf env y>>=λ y'=>pure (ForInStep.yield ((y,y')::acc)))else pure (ForInStep.yield acc))>>=_)=_;rw[F7 (O2 _),e];exact e1
    ·refine e3 x ?_
     by_cases q:x=y
     ·subst q;exact .inr ⟨c,by rw[cK,F7 rfl]⟩
     ·rcases hx with hx|⟨c',hx⟩
      ·rcases F8.mp hx with hx|hx
       ·injection hx with a b;exact absurd a q
       ·exact .inl hx
      ·exact .inr ⟨c',by rw[cK,G0 q];exact hx⟩
   ·refine A0 (ih acc (λ x hx=>h1 x (List.mem_cons_of_mem _ hx)) h2) λ cl hZ=>?_;delta hZ e1 e2 e3
    have hb:(k==NameKind.free)=false:=by simpa using hk
    refine⟨cl,?_,e2,λ x hx=>e3 x ?_⟩
    ·show((if(k==NameKind.free)=true then(cellOf env y>>=λ y'=>pure (ForInStep.yield ((y,y')::acc)))else pure (ForInStep.yield acc))>>=_)=_;rw[G0 (by rw[hb];exact C5)];exact e1
    ·rcases hx with hx|hx
     ·rcases F8.mp hx with hx|hx
      ·injection hx with a b;exact absurd b.symm hk
      ·exact .inl hx
     ·exact .inr hx
 refine A0 (gen scope.names [] h (λ x c hx=>by simp at hx)) λ cl hZ=>?_;delta hZ e1 e2 e3
 refine⟨cl,?_,e2,λ x hx=>e3 x (.inl hx)⟩
 unfold closureFor
 simpa using e1
end
def vA(env:Env)(n:Str)(k:NameKind):NameKind:=if(k==NameKind.free&&env.scope.kind==.function&&env.kindOf n==some .cell)=true then .cell else k
theorem eB{env:Env}{x:Str}:∀l:List (Str×NameKind),(l.map λ(n,k)=>if(k==NameKind.free&&env.scope.kind==.function&&env.kindOf n==some .cell)then(n,NameKind.cell)else(n,k)).lookup x=(l.lookup x).map (vA env x)
 |[]=>rfl
 |(n,k)::r=>by
  have ih:=@eB env x r
  rw[I6,I1,I1]
  by_cases q:x=n
  ·subst q
   by_cases hc:(k==NameKind.free&&env.scope.kind==.function&&env.kindOf x==some .cell)=true
   ·simp only[hc,if_true,O2,fX];exact C7 some (F7 hc).symm
   ·simp only[G0 hc,O2,fX];exact C7 some (G0 hc).symm
  ·have:(x==n)=false:=by simpa using q
   by_cases hc:(k==NameKind.free&&env.scope.kind==.function&&env.kindOf n==some .cell)=true
   ·simp only[hc,if_true,this];exact ih
   ·simp only[G0 hc,this];exact ih
structure OK(scope:Scope)(env:Env):Prop where
 kind:scope.kind=.function
 gen:scope.isGenerator=false
 Ik:scope.isCoroutine=false
 lf:∀x∈scope.names,x.2≠.cell∧scope.names.lookup x.1=some x.2
 fr:∀x:Str,(x,NameKind.free)∈scope.names->x≠"__class__"∧(env.kindOf x=some .cell∨env.kindOf x=some .free)
theorem mem_of_lookupK{x:Str}{k:NameKind}:∀{l:List (Str×NameKind)},l.lookup x=some k->(x,k)∈l
 |[],h=>by simp at h
 |(n,k')::r,h=>by
  rw[I1]at h
  by_cases q:x=n
  ·subst q;simp at h;subst h;exact List.mem_cons_self
  ·have:(x==n)=false:=by simpa using q
   rw[this]at h;exact List.mem_cons_of_mem _ (mem_of_lookupK h)
def zC(scope:Scope)(ns:List (Option Str)):List (Option Str):=ns.map λ o=>o.bind λ x=>if scope.names.lookup x=some .free then some x else none
theorem Fd{scope:Scope}{ns:List (Option Str)}{i:Nat}{x:Str}(h:(zC scope ns)[i]? =some (some x)):ns[i]? =some (some x)∧scope.names.lookup x=some .free:=by
 unfold zC at h
 rw[H9]at h
 cases e:ns[i]? with
 |none=>rw[e]at h;cases h
 |some o=>
  rw[e]at h
  cases o with
  |none=>cases h
  |some y=>
   simp only[fX,Option.bind_some,Option.some.injEq]at h
   split at h
   ·rename_i q;cases h;exact⟨rfl,q⟩
   ·cases h
section
variable{W:Wd}{n:Nat}{ns:List (Option Str)}{ρ:List PV}{env:Env}{A:Around}{s:Shared}{σ:PH}{E:Value->Shared->Prop}
theorem ZJ{scope:Scope}{cl:List (Str×Addr)}{C:Addr}(sc:OK scope env){x:Str}(h:scope.names.lookup x=some .free):(compEnvC scope cl C env).kindOf x=some .cell∨(compEnvC scope cl C env).kindOf x=some .free:=by
 have e:(compEnvC scope cl C env).kindOf x=(scope.names.lookup x).map (vA env x):=eB _
 rw[e,h]
 simp only[fX,vA]
 split
 ·exact .inl rfl
 ·exact .inr rfl
theorem UB{scope:Scope}{cl:List (Str×Addr)}{C:Addr}{x:Str}(h:scope.names.lookup x=some .local):(compEnvC scope cl C env).kindOf x=some .local:=lookup_relabel_local h
theorem UC{scope:Scope}{cl:List (Str×Addr)}{C:Addr}(hE:U5 env)(sc:OK scope env)(hc:∀x,(x,NameKind.free)∈scope.names->∃c,cl.lookup x=some c):U5 (compEnvC scope cl C env):=by
 refine⟨sc.kind,hE.glob,hE.blt,sc.gen,sc.Ik,λ x Qu hx=>?_⟩
 have:scope.names.lookup x=some .free:=by
  have e:(compEnvC scope cl C env).kindOf x=(scope.names.lookup x).map (vA env x):=eB _
  rw[e]at hx
  cases q:scope.names.lookup x with
  |none=>rw[q]at hx;rcases hx with h|h<;>cases h
  |some k=>
   have nc:=(sc.lf _ (mem_of_lookupK q)).1
   rw[q]at hx
   cases k with
   |free=>rfl
   |cell=>exact absurd rfl nc
   |_=>simp[vA]at hx
 refine A0 (hc x (mem_of_lookupK this)) λ c h=>?_
 exact⟨c,BX Qu h⟩
theorem FR.fK{h h':Heap}{it:Addr}(F:FR W ns ρ env σ h)(hit:¬rL env it)(k:OU it h h')(m:nT h h'):FR W ns ρ env σ h':=by
 have cell:∀y c v,DK env y=some c->h.IsCell c v->h'.IsCell c v:=λ y c v e ⟨o,ho,hd⟩=>⟨o,k c o (by clear k;rintro rfl;exact hit (.inr ⟨y,e⟩)) ho,hd⟩
 refine A0 (F.val) λ mm hZ=>?_;delta hZ hn hv
 intros hn o hZ;intros hZ es Q0;intros Q0 ep P4;delta P4 ho r
 refine⟨⟨mm,⟨o,es,ep,k _ o (by clear k;rintro rfl;exact hit (.inl rfl)) ho,r⟩,λ i y pv a b c=>?_⟩,λ y c e=>?_,F.inj,F.own,F.len,F.nd⟩
 ·refine A0 (hv i y pv a b c) λ v hZ=>?_;delta hZ r1 q
  exact⟨v,r1.V7 m,q.imp id λ⟨k',c',e,hc⟩=>⟨k',c',e,cell y c' _ e hc⟩⟩
 ·refine A0 (F.cells y c e) λ v hc=>?_;exact⟨v,cell y c v e hc⟩
def distinct(l:List (Option Str)):Prop:=∀(i j:Nat) (x:Str),l[i]? =some (some x)->l[j]? =some (some x)->i=j
theorem NR{scope:Scope}{cl:List (Str×Addr)}{C:Addr}{h:Heap}{m:Str->Option Value}{tn:List Str}(hE:U5 env)(sc:OK scope env)(F:FR W ns ρ env σ h)(hn:h.Ns C m)(hC:σ C=none)(Ri:W.h₀.get? C=none)
  (h1:∀x c,cl.lookup x=some c->env.cells.lookup x=some c)(h2:∀x,(x,NameKind.free)∈scope.names->∃c,cl.lookup x=some c)(nd:distinct (zC scope ns++tn.map some)):
  FR W (zC scope ns++tn.map some) (ρ++List.replicate tn.length .M7) (compEnvC scope cl C env) σ h:=by
 refine A0 (F.val) λ mm hZ=>?_;delta hZ b6 hv
 have Ui:∀x c,DK (compEnvC scope cl C env) x=some c->DK env x=some c:=λ x c e=>BX (NU e) (h1 x c (mK (env:=compEnvC scope cl C env) e))
 refine⟨⟨m,hn,λ i x pv a b c=>?_⟩,λ y c e=>F.cells y c (Ui y c e),λ x y c e1 e2=>F.inj x y c (Ui _ _ e1) (Ui _ _ e2),λ b hb=>?_,by simp[zC,F.len],nd⟩
 ·by_cases hi:i<ns.length
  ·have XS:i<ρ.length:=by rw[F.len];exact hi
   rw[I4 (by simpa[zC]using hi)]at a
   rw[I4 XS]at b
   have hZ:=Fd a;delta hZ a1 a2
   refine A0 (hv i x pv a1 b c) λ v hZ=>?_;delta hZ r q
   refine⟨v,r,.inr ⟨ZJ sc a2,?_⟩⟩
   have mem:=mem_of_lookupK a2
   refine A0 (h2 x mem) λ c₁ Ia=>?_
   clear a a1 a2 h2 hE hn b6 hv m nd r tn;rcases q with⟨kl,_⟩|⟨_,c₂,QR,QS⟩
   ·rcases (sc.fr x mem).2 with k|k<;>(rw[kl]at k;cases k)
   ·have:=h1 x c₁ Ia
    rw[mK QR]at this;clear h1 QR mm;cases this
    exact⟨_,BX (env:=compEnvC scope cl C env) (sc.fr x mem).1 Ia,QS⟩
  ·have XS:ρ.length<=i:=by rw[F.len];lia
   rw[N2 XS]at b
   rw[gM]at b
   split at b
   ·cases b;exact absurd rfl c
   ·cases b
 ·clear h1 h2 hE hn b6 hv m mm nd sc tn;rcases hb with rfl|⟨x,e⟩
  ·exact⟨hC,Ri⟩
  ·exact F.own b (.inr ⟨x,Ui x b e⟩)
theorem CU:∀(ys prev ρ:List PV),prev.length=ys.length->aO ((List.range ys.length).map (ρ.length+·)) ys (ρ++prev)=ρ++ys:=by
 intro ys
 induction ys with
 |nil=>intro prev ρ h;cases prev with|nil=>rfl|cons=>simp at h
 |cons y r ih=>
  intro prev ρ h
  cases prev with
  |nil=>simp at h
  |cons p q=>
   rw[H5,aG,I6,G2]
   show aO (List.map _ _) r ((ρ++p::q).set (ρ.length+0) y)=_
   have e:(ρ++p::q).set (ρ.length+0) y=(ρ++[y])++q:=by
    rw[Nat.add_zero,List.set_append_right _ _ (D7 _)];simp
   rw[e]
   have:=ih q (ρ++[y]) (by simpa using h)
   rw[show((λ x=>ρ.length+x)∘Nat.succ)=(λ x=>(ρ++[y]).length+x)from by funext x;simp[Nat.succ_eq_add_one];lia]
   rw[this];simp
end
def yK(W:Wd)(n:Nat)(ns:List (Option Str))(env:Env)(ifs:List Expr)(f:T Bool):Prop:=
 ∀A s ρ σ (Q:Bool->PH->Prop),Rm n A->SR W σ s.heap->FR W ns ρ env σ s.heap->f ρ σ Q->
  wpAny W.M A (forIn ifs true λ c r=>if r=true then do let ok <-isTrue c env (eval c env);pure (ForInStep.yield ok)else pure (ForInStep.yield r)) (λ b s'=>∃B9,Q b B9∧SR W B9 s'.heap∧kC σ s.heap B9 s'.heap∧Sm s s') (λ _ _=>False) s
structure KY(W:Wd)(yR:List (Option Str))(cW:Env)(ρ:List PV)(tn:Nat)(B4:PH)(I2:Shared)(D:Addr)(acc:List PV)(σ:PH)(s:Shared):Prop where
 sr:SR W σ s.heap
 fr:∃prev:List PV,prev.length=tn∧FR W yR (ρ++prev) cW σ s.heap
 ls:∃vs k,s.heap.get? D=some ⟨.type "list",none,.seq vs.toArray k,#[]⟩∧bP s.heap acc vs
 dn:σ D=none
 eN:kC B4 I2.heap σ s.heap
 sm:Sm I2 s
section
variable{W:Wd}{n:Nat}{ns yR:List (Option Str)}{ρ:List PV}{env cW:Env}{A:Around}{s I2:Shared}{σ B4:PH}{E:Value->Shared->Prop}{tn:Nat}{D it:Addr}{acc:List PV}
theorem YS:yK W n ns env [] (λ _ σ Q=>Q true σ):=λ A s ρ σ Q _ S _ q=>wpAny_tests_nil ⟨σ,q,S,.refl _ _,.refl _⟩
theorem JY{c:Expr}{f:T Bool}(h:FQ W n ns env c f):yK W n ns env [c] f:=λ A s ρ σ Q rm S F q=>wpAny_tests_one (h A s ρ σ Q rm S F q)
theorem KY.step{B9:PH}{s':Shared}(x:KY W yR cW ρ tn B4 I2 D acc σ s)(S:SR W B9 s'.heap)(t:kC σ s.heap B9 s'.heap)(m:Sm s s'):KY W yR cW ρ tn B4 I2 D acc B9 s':=by
 refine A0 (x.fr) λ prev hZ=>?_;delta hZ hl F
 refine ee2.e (x.ls) λ vs k hZ=>?_;delta hZ e r
 have p:=t.bO D _ e x.dn
 exact⟨S,⟨prev,hl,F.eN x.sr t⟩,⟨vs,k,p.1,r.V7 (t.V7 x.sr)⟩,p.2,x.eN.trans t,x.sm.trans m⟩
theorem KY.Gw{h':Heap}{tk:Tok}(x:KY W yR cW ρ tn B4 I2 D acc σ s)(S:SR W σ h')(hn:I2.heap.get? it=none)(hD:D≠it)(ho:¬rL cW it)(k:OU it s.heap h')(m:nT s.heap h'):
  KY W yR cW ρ tn B4 I2 D acc σ {s with heap:=h',toks:=tk}:=by
 refine A0 (x.fr) λ prev hZ=>?_;delta hZ hl F
 refine ee2.e (x.ls) λ vs j hZ=>?_;delta hZ e r
 refine⟨S,⟨prev,hl,F.fK ho k m⟩,⟨vs,j,k D _ hD e,r.V7 m⟩,x.dn,⟨λ b o e' q=>?_,x.eN.IE⟩,x.sm.trans (.mk' _ _ _)⟩
 have:=x.eN.bO b o e' q
 exact⟨k b o (by clear ho k hD;rintro rfl;rw[hn]at e';cases e') this.1,this.2⟩
theorem KY.asg{h':Heap}{tk:Tok}{ys:List PV}(x:KY W yR cW ρ tn B4 I2 D acc σ s)(S:SR W σ h')(hn:I2.heap.get? cW.locals=none)(hD:D≠cW.locals)(t:fW (KZ cW true) σ s.heap σ h')(m:nT s.heap h')
  (hy:ys.length=tn)(F':FR W yR (ρ++ys) cW σ h'):KY W yR cW ρ tn B4 I2 D acc σ {s with heap:=h',toks:=tk}:=by
 refine A0 (x.fr) λ prev hZ=>?_;delta hZ hl F
 refine ee2.e (x.ls) λ vs j hZ=>?_;delta hZ e r
 have nt:∀b,b≠cW.locals->¬KZ cW true b:=λ b hb q=>by rcases q with q|q;exact hb q;cases q.1
 refine⟨S,⟨ys,hy,F'⟩,⟨vs,j,(t.bO D _ e x.dn (nt D hD)).1,r.V7 m⟩,x.dn,⟨λ b o e' q=>?_,x.eN.IE⟩,x.sm.trans (.mk' _ _ _)⟩
 have:=x.eN.bO b o e' q
 exact t.bO b o this.1 this.2 (nt b (by clear q;rintro rfl;rw[hn]at e';cases e'))
theorem KY.app{h':Heap}{y:PV}{v:Value}(x:KY W yR cW ρ tn B4 I2 D acc σ s)(hn:I2.heap.get? D=none)(hb:W.h₀.get? D=none)(ho:¬rL cW D){vs:List Value}{k:Nat}(e:s.heap.get? D=some ⟨.type "list",none,.seq vs.toArray k,#[]⟩)(r:bP s.heap acc vs)(ry:VR s.heap y v)
  (e':h'.PlainList D (vs.toArray.push v))(sb:Heap.SameBut D s.heap h'):KY W yR cW ρ tn B4 I2 D (acc++[y]) σ {s with heap:=h'}:=by
 refine A0 (x.fr) λ prev hZ=>?_;delta hZ hl F
 intros e' k' e'
 have q:=x.sr.fK x.dn hb e rfl (SameBut.fK sb)
 refine⟨q.1,⟨prev,hl,F.fK ho (SameBut.fK sb) q.2⟩,⟨vs++[v],k',?_,(r.V7 q.2).append (.cons (ry.V7 q.2) .nil)⟩,x.dn,⟨λ b o e2 q=>?_,x.eN.IE⟩,x.sm.trans ⟨h',s.toks,rfl⟩⟩
 ·show h'.get? D=_
  rw[e'];simp
 ·have:=x.eN.bO b o e2 q
  exact⟨(sb.2 b (by clear e' x e hb sb ho;rintro rfl;rw[hn]at e2;cases e2)).trans this.1,this.2⟩
theorem UP{k:Nat}{pv:PV}{ys:List PV}{m:Nat}(hk:(And (k=0) (m=1))∨(And (k=m) (0<k)))(h:eI k pv=some ys):ys.length=m:=by
 cases k with
 |zero=>cases h;rcases hk with h|h<;>simp at h ⊢;exact h.symm
 |succ k=>
  cases pv<;>simp only[eI,reduceCtorEq]at h
  split at h
  ·rename_i q;cases h;rcases hk with h|h
   ·simp at h
   ·exact q.trans h.1
  ·cases h
theorem UA{t elt iter:Expr}{ifs:List Expr}{scope:Scope}{pos:Pos}{k:Nat}{fc:T Bool}{fe:T PV}{R:Result->Shared->Prop}{iv:PV}{Qf:List PV->PH->Prop}
  (hE:U5 cW)(rm:Rm n A)(hk:(And (k=0) (tn=1))∨(And (k=tn) (0<k)))(tg:Tg yR cW true t k ((List.range tn).map (ρ.length+·)))
  (hc:yK W n yR cW ifs fc)(he:Ev W n yR cW elt fe)
  (nD:I2.heap.get? D=none)(nI:I2.heap.get? it=none)(nC:I2.heap.get? cW.locals=none)(bD:W.h₀.get? D=none)(bI:W.h₀.get? it=none)(DI:D≠it)(oD:¬rL cW D)(oI:¬rL cW it)
  (fin:∀B9 acc s',KY W yR cW ρ tn B4 I2 D acc B9 s'->acc.length<=2^24->Qf acc B9->R (.ok .next) s')
  (l:List PV)(acc:List PV)(σ:PH)(s:Shared)(hz:acc.length+l.length<=2^24)(x:KY W yR cW ρ tn B4 I2 D acc σ s)(st:M9 B4 iv σ)(nU:σ it=none)(ir:rX W σ s.heap it iv l)
  (h:pE (M9 B4 iv) (λ x σ R=>∃ys,eI k x=some ys∧fc (ρ++ys) σ λ b B9=>match b with
    |true=>fe (ρ++ys) B9 λ y S7=>R (some y) S7
    |false=>R .none B9) l acc σ Qf):
  codeAny W.M A (.compLoop (.ListComp elt [⟨t,iter,ifs,0⟩] scope pos) 0 (.ref it) (.ref D) cW) R s:=by
 refine HL (λ m s=>∃l acc σ,m=l.length∧acc.length+l.length<=2^24∧KY W yR cW ρ tn B4 I2 D acc σ s∧M9 B4 iv σ∧σ it=none∧rX W σ s.heap it iv l∧
  pE (M9 B4 iv) (λ x σ R=>∃ys,eI k x=some ys∧fc (ρ++ys) σ λ b B9=>match b with
    |true=>fe (ρ++ys) B9 λ y S7=>R (some y) S7
    |false=>R .none B9) l acc σ Qf) ?_ l.length ⟨l,acc,σ,rfl,hz,x,st,nU,ir,h⟩
 intro m s hQ;intros hQ l acc σ hZ;clear iter pos scope;obtain rfl:=hZ.1;delta hZ hZ hz x st nU ir h
 have hD:D≠cW.locals:=λ e=>oD (.inl e)
 refine A0 (ir.has) λ oi hZ=>?_;delta hZ ei ni
 refine ir.next rm x.sr nU bI (λ y r hl u h' tk ru Ht S' k'=>?_) λ hl h' tk S' k'=>?_
 ·clear ir;subst hl
  have m1:nT s.heap h':=(x.sr.fK nU bI ei ni k').2
  have x1:KY W yR cW ρ tn B4 I2 D acc σ {s with heap:=h',toks:=tk}:=x.Gw S' nI DI oI k' m1
  intros h ys hZ;delta hZ hb hf
  have hy:=UP hk hb
  refine JQ (σ:=σ) tg Ht ?_
  refine A0 (x1.fr) λ prev hZ=>?_;delta hZ hp F1
  refine pJ (s:={s with heap:=h',toks:=tk}) hE tg rm S' F1 ru hb λ h2 Pe S2 F2 t2=>?_
  rw[<-hy,CU ys prev ρ (hp.trans hy.symm)]at F2
  have m2:=t2.V7 S' F1 λ _=>KZ.own
  have x2:KY W yR cW ρ tn B4 I2 D acc σ {s with heap:=h2,toks:=Pe}:=x1.asg S2 nC hD t2 m2 hy F2
  have QI:∀o,h'.get? it=some o->h2.get? it=some o:=λ o e=>(t2.bO it o e nU λ q=>oI q.own).1
  have pI:∀B9 (s':Shared),kC σ h2 B9 s'.heap->M9 B4 iv B9->B9 it=none∧rX W B9 s'.heap it iv r:=λ B9 s' t w=>⟨let⟨o,ho,_⟩:=Ht.has;(t.bO it o (QI o ho) nU).2,Ht.of (m2.trans (t.V7 S2)) (λ o e=>(t.bO it o (QI o e) nU).1) (st.back w)⟩
  refine I7 (hc A _ _ _ _ rm S2 F2 hf) (λ b s3 ba=>?_) λ _ _ e=>e
  intros ba Y9 hZ;delta hZ q3 S3 t3 m3
  have x3:=x2.step S3 t3 m3
  have F3:=F2.eN S2 t3
  have z1:acc.length+r.length<2^24:=hz
  clear F1 F2 S2 hD hE hb hc hf hk hp hy ifs ir Ht QI m2 m3 nC prev ru st t2 tg u x1 x2;cases b with
  |false=>
   have hZ:=pI Y9 s3 t3 q3.1;delta hZ i1 i2
   exact(G0 C5).mpr ⟨r.length,K5 _,r,acc,Y9,rfl,M8 z1,x3,q3.1,i1,i2,q3.2⟩
  |true=>
   refine(F7 rfl).mpr (I7 (he A _ _ _ _ rm S3 F3 q3) (λ v s4 h4=>?_) λ _ _ e=>e)
   intros h4 y' bM hZ;generalize hZ.1=P4;delta P4 w4 q4;delta hZ hZ r4 S4 t4 m4
   have x4:=x3.step S4 t4 m4
   refine ee2.e (x4.ls) λ vs kk hZ=>?_;delta hZ e4 Zj
   refine wpAny_list_append_plain ⟨kk,e4⟩ (λ h5 e5 Vp=>?_) (by rw[H1,Zj.length,K0];exact A9 (M8 (H8 (J6 _ _) z1)) (show 2^24<=_ by decide))
   have hZ:=pI bM s4 (t3.trans t4) w4;delta hZ i1 i2
   exact⟨r.length,K5 _,r,acc++[y'],bM,rfl,by rw[B0];exact Nat.succ_add .. ▸z1,x4.app nD bD oD e4 Zj r4 e5 Vp,w4,i1,i2.of (S4.fK x4.dn bD e4 rfl (SameBut.fK Vp)).2 (λ o e=>(Vp.2 it (hM DI)).trans e) (.here _ _),q4⟩
 ·clear bD hD hE hc he hk ir nC nD oD rm st tg;subst hl
  have m1:nT s.heap h':=(x.sr.fK nU bI ei ni k').2
  exact fin σ acc _ (x.Gw S' nI DI oI k' m1) (by simpa using hz) h
end
structure Nl(W:Wd)(σ:PH)(s:Shared)(C:Addr)(B9:PH)(s':Shared):Prop where
 ns:∃m,s'.heap.Ns C m
 sr:SR W B9 s'.heap
 eN:kC σ s.heap B9 s'.heap
 sm:Sm s s'
 cn:B9 C=none
 cb:W.h₀.get? C=none
 cs:s.heap.get? C=none
section
variable{W:Wd}{n:Nat}{ns yR:List (Option Str)}{ρ:List PV}{env cW:Env}{A:Around}{s I2:Shared}{σ B4:PH}{E:Value->Shared->Prop}{tn:Nat}{D it:Addr}{acc:List PV}
theorem Nl.letGo{C:Addr}{B9:PH}{s':Shared}{h':Heap}(x:Nl W σ s C B9 s')(sb:Heap.SameBut C s'.heap h'):SR W B9 h'∧kC σ s.heap B9 h'∧Sm s {s' with heap:=h'}:=by
 refine A0 (x.ns) λ m hZ=>?_;intros hZ o Q0;intros Q0 es P4;intros P4 ep fU;generalize fU.1=ho;generalize fU.2=nS;delta nS hd;try clear fU
 have q:=x.sr.fK x.cn x.cb ho (by simp[cV,hd]) (SameBut.fK sb)
 refine⟨q.1,⟨λ b o e n=>?_,x.eN.IE⟩,x.sm.trans ⟨h',s'.toks,rfl⟩⟩
 have:=x.eN.bO b o e n
 exact⟨(sb.2 b (by clear ho sb;rintro rfl;rw[x.cs]at e;cases e)).trans this.1,this.2⟩
theorem SR.adopt{h:Heap}{a:Addr}{o:PO}{ob:Obj}(S:SR W σ h)(e:h.get? a=some ob)(r:OR W h o ob)(hb:W.h₀.get? a=none):SR W (σ.set a o) h:=by
 refine⟨λ b po e'=>?_,S.keep,λ b n=>?_⟩
 ·by_cases q:b=a
  ·clear hb;subst q;rw[PH.J7]at e';cases e';exact⟨ob,e,r⟩
  ·rw[PH.U0 _ _ q]at e';exact S.obj b po e'
 ·by_cases q:b=a
  ·clear n e;subst q;exact hb
  ·rw[PH.U0 _ _ q]at n;exact S.new b n
theorem FI{t elt iter:Expr}{ifs:List Expr}{scope:Scope}{pos p0:Pos}{k:Nat}{wP:List Str}{fi:T PV}{fc:T Bool}{fe:T PV}{Q:PV->PH->Prop}{use:Option (Value->Sem Unit)}{Q':Value->Shared->Prop}
  (hW:W.Ok)(hE:U5 env)(sc:OK scope env)(rm:Rm n A)(S:SR W σ s.heap)(F:FR W ns ρ env σ s.heap)(hk:(And (k=0) (wP.length=1))∨(And (k=wP.length) (0<k)))
  (nd:distinct (zC scope ns++wP.map some))
  (Bg:∀cl C,Tg (zC scope ns++wP.map some) (compEnvC scope cl C env) true t k ((List.range wP.length).map (ns.length+·)))
  (hi:Ev W n ns env iter fi)
  (hc:∀cl C,U5 (compEnvC scope cl C env)->yK W n (zC scope ns++wP.map some) (compEnvC scope cl C env) ifs fc)
  (he:∀cl C,U5 (compEnvC scope cl C env)->Ev W n (zC scope ns++wP.map some) (compEnvC scope cl C env) elt fe)
  (hs:∀x,foldedSetIterable iter env x=pure x)
  (h:fi ρ σ λ iv B4=>∃xs,mF B4 iv xs∧pE (M9 B4 iv) (λ x σ R=>∃ys,eI k x=some ys∧fc (ρ++ys) σ λ b B9=>match b with
    |true=>fe (ρ++ys) B9 λ y S7=>R (some y) S7
    |false=>R .none B9) xs [] B4 λ ys H6=>∀c,H6 c=none->Q (.ref c) (H6.set c (.list ys)))
  (fin:∀D C B9 s',Nl W σ s C B9 s'->Q (.ref D) B9->FR W ns ρ env B9 s'.heap->compPost W.M A E use Q' (.ref D) C (.ok .next) s'):
  wpAny W.M A (comprehension (.ListComp elt [⟨t,iter,ifs,0⟩] scope pos) scope env p0 (newList []) false (eval iter env) use) Q' E s:=by
 refine A0 (Sc (scope:=scope) (env:=env) λ x hx=>(hE.cls x (sc.fr x hx).1 (sc.fr x hx).2).imp λ _=>mK) λ cl hZ=>?_;delta hZ e1 e2 e3
 refine wpAny_comprehension_free rfl hs e1 sc.kind (λ x hx hl=>by have:=(sc.lf x hx).2;rw[hl]at this;exact this) ?_
 refine I7 (hi A s ρ σ _ rm S F h) (λ xv I2 mH=>?_) λ _ _ x=>x.elim
 intros mH iv B4 hZ;refine A0 hZ.1 λ xs P4=>?_;delta P4 hit XV;delta hZ hZ Y1 N5 VM m₁
 have U4:=F.eN S VM
 refine QL hW N5 Y1 hit λ I iO nU bI nI ir k₂=>?_
 refine aK (wpAny_newFunctionEnv (λ x hx q=>?_) (by intro y hy;simp at hy) (λ uB jV rR=>?_) sc.kind)
 ·exact(sc.lf x hx).1 q
 dsimp only at jV rR ⊢
 generalize hH:iO.push {cls:=.type "list",dict:=none,data:=.seq ([]:List Value).toArray}=H at jV rR ⊢
 have hC:H.objs.size=iO.objs.size+1:=by rw[<-hH,Heap.size_push]
 have No:iO.get? iO.objs.size=none:=W7 (D7 _)
 have Hl:iO.get? H.objs.size=none:=W7 (by rw[hC];exact cO _)
 have tU:∀a,iO.get? a=none->I2.heap.get? a=none:=λ a e=>by
  clear S e1 h hW hi hs p0 Y1 xv;clear XV hit ir bI nI nU;cases q:I2.heap.get? a with
  |none=>rfl
  |some o=>rw[k₂ a o q]at e;cases e
 have DC:iO.objs.size≠H.objs.size:=by rw[hC];exact U6 (K5 _)
 have kk:∀b o,iO.get? b=some o->uB.get? b=some o:=λ b o e=>rR.extBut b o (by clear S e1 h hC hW hi hs p0 Y1 xv;clear XV hit ir bI nI nU;rintro rfl;rw[Hl]at e;cases e) (Q4 _ (hH▸Q4 _ e))
 have k3:∀b o,I2.heap.get? b=some o->uB.get? b=some o:=λ b o e=>kk b o (k₂ b o e)
 have nD:=tU _ No
 have nC:=tU _ Hl
 have sD:=N5.fresh nD
 have sC:=N5.fresh nC
 have bD:=N5.fL nD
 have bC:=N5.fL nC
 have eK:SR W B4 uB:=N5.keeps k3
 have IN:kC B4 I2.heap B4 uB:=.keeps k3
 have rY:=U4.eN N5 IN
 have FC:=NR hE sc rY jV sC bC e2 e3 nd
 have Nz:U5 (compEnvC scope cl H.objs.size env):=UC hE sc e3
 have FJ:∀a,I2.heap.get? a=none->a≠H.objs.size->¬rL (compEnvC scope cl H.objs.size env) a:=λ a e ne q=>by
  clear rY S e1 e3 h hC hE hW hi jV hs k3 nd tU p0 Y1 sC sc xv;clear XV hit ir bI nI nU;rcases q with q|⟨x,hx⟩
  ·exact ne q
  ·refine A0 (U4.cells x a (BX (NU hx) (e2 x a (mK (env:=compEnvC scope cl H.objs.size env) hx)))) λ v hZ=>?_;intros hZ o Q0;delta Q0 ho
   rw[e]at ho;cases ho
 have oD:=FJ _ nD DC
 refine A0 (ir.has) λ oi hZ=>?_;delta hZ ei
 have IC:I≠H.objs.size:=by clear rY S e1 e2 e3 h hC hE hW hi jV hs k3 nd tU p0 Y1 sC sc xv;clear XV hit ir bI nI nU;rintro rfl;rw[Hl]at ei;cases ei
 have DI:iO.objs.size≠I:=by clear rY S e1 e2 e3 h hC hE hW hi jV hs k3 Hl nd tU p0 Y1 sC sc xv;clear XV hit ir bI nI nU IC;rintro rfl;rw[No]at ei;cases ei
 have oI:=FJ _ nI IC
 have EU:rX W B4 uB I iv xs:=ir.eN (N5.keeps k₂) nU (.keeps kk) (by clear rY IC S FJ e1 e2 e3 ei h hC hE hW hi jV hs ir k3 kk k₂ Hl No nd tU oi p0 Y1 sC sc xv;clear XV hit bI nI nU;cases iv<;>first|trivial|rfl)
 have Uh:uB.get? iO.objs.size=some ⟨.type "list",none,.seq ([]:List Value).toArray 0,#[]⟩:=by
  refine rR.extBut _ _ DC (Q4 _ ?_)
  rw[<-hH];exact N6 _ rfl
 have Pf:=Bg cl H.objs.size
 rw[<-F.len]at Pf
 have loop:∀aV:Shared,aV={I2 with heap:=uB,toks:=I2.toks+([]:List (Str×Value)).length}->
   codeAny W.M A (.compLoop (.ListComp elt [⟨t,iter,ifs,0⟩] scope pos) 0 (.ref I) (.ref iO.objs.size) (compEnvC scope cl H.objs.size env)) (compPost W.M A E use Q' (.ref iO.objs.size) H.objs.size) aV:=by
  rintro aV rfl
  refine UA (I2:=I2) (B4:=B4) (iv:=iv) (tn:=wP.length) (fc:=fc) (fe:=fe) (Qf:=λ ys H6=>∀c,H6 c=none->Q (.ref c) (H6.set c (.list ys))) Nz rm hk Pf (hc cl _ Nz) (he cl _ Nz) nD nI nC bD bI DI oD oI ?_ xs [] B4 _ (by simpa using hit.2)
   ⟨eK,⟨_,by simp,FC⟩,⟨[],0,Uh,.nil⟩,sD,IN,⟨uB,_,rfl⟩⟩ (by clear DI F FC rY IC S eK bI FJ e1 e2 e3 ei h hC Uh hE Nz hW hc he hi hit hk jV hs rR Bg ifs ir iter k3 kk k₂ Hl No nI nd tU oD oI oi p0 pos rm Y1 sC sD sc IN Pf wP xv;clear XV EU nU;cases iv<;>first|trivial|rfl) nU EU XV
  intro B9 acc s' x hz hq
  refine A0 (x.fr) λ prev hZ=>?_;delta hZ hZ Fe
  refine ee2.e (x.ls) λ vs kq hZ=>?_;delta hZ eD rD
  refine A0 (Fe.val) λ mC hZ=>?_;delta hZ z5
  have Sx:=x.sr.adopt (o:=.list acc) eD (.list rD (by omega)) bD
  have tx:kC B4 I2.heap (B9.set iO.objs.size (.list acc)) s'.heap:=by
   refine⟨λ b o e q=>?_,λ b q=>?_⟩
   ·have:=x.eN.bO b o e q
    exact⟨this.1,by rw[PH.U0 _ _ (by clear DI F FC rY IC S eK bD bI FJ e1 e2 e3 eD ei h hC Uh hE Nz hW hc XV he hi hit hk jV hs rR Bg hz ifs ir iter nU k3 kk kq k₂ Hl No nI nd tU oD oI oi p0 pos rD rm Y1 sC sD sc IN Pf vs xv;clear EU q;rintro rfl;rw[nD]at e;cases e)];exact this.2⟩
   ·by_cases w:b=iO.objs.size
    ·clear XV EU hit ir bI nI nU q IC;subst w;rw[PH.J7];simp
    ·rw[PH.U0 _ _ w];exact x.eN.IE b q
  have Cn:(B9.set iO.objs.size (.list acc)) H.objs.size=none:=by
   rw[PH.U0 _ _ (hM DC)];exact(Fe.own _ (.inl rfl)).1
  have s6:s.heap.get? H.objs.size=none:=by
   clear DC DI F FC Fe rY IC S eK bD bI FJ e1 e2 e3 eD ei h hC Uh hE Nz hW hc XV he hi hit hk jV hs rR Bg hz ifs ir iter nU k3 kk kq k₂ Hl nD No nI nd tU oD oI oi p0 pos prev rD rm Y1 sC sD sc IN Pf vs xv;clear EU;cases q:s.heap.get? H.objs.size with
   |none=>rfl
   |some o=>
    cases w:σ H.objs.size with
    |none=>rw[(VM.bO _ o q w).1]at nC;cases nC
    |some po=>exact absurd (N5.fresh nC) (VM.IE _ (by rw[w];simp))
  exact fin _ _ _ s' ⟨⟨mC,z5⟩,Sx,VM.trans tx,m₁.trans x.sm,Cn,bC,s6⟩ (hq _ x.dn) (U4.eN N5 tx)
 exact codeAny_compStart_list (loop _ rfl) (TG (s:={I2 with heap:=uB,toks:=_}) EU (loop _ rfl))
theorem RD{t elt iter:Expr}{ifs:List Expr}{scope:Scope}{pos:Pos}{k:Nat}{wP:List Str}{fi:T PV}{fc:T Bool}{fe:T PV}
  (hW:W.Ok)(hE:U5 env)(sc:OK scope env)(hk:(And (k=0) (wP.length=1))∨(And (k=wP.length) (0<k)))
  (nd:distinct (zC scope ns++wP.map some))
  (Bg:∀cl C,Tg (zC scope ns++wP.map some) (compEnvC scope cl C env) true t k ((List.range wP.length).map (ns.length+·)))
  (hi:Ev W n ns env iter fi)
  (hc:∀cl C,U5 (compEnvC scope cl C env)->yK W n (zC scope ns++wP.map some) (compEnvC scope cl C env) ifs fc)
  (he:∀cl C,U5 (compEnvC scope cl C env)->Ev W n (zC scope ns++wP.map some) (compEnvC scope cl C env) elt fe)
  (hs:∀x,foldedSetIterable iter env x=pure x):
  Ev W n ns env (.ListComp elt [⟨t,iter,ifs,0⟩] scope pos) (λ ρ σ Q=>fi ρ σ λ iv B4=>∃xs,mF B4 iv xs∧pE (M9 B4 iv) (λ x σ R=>∃ys,eI k x=some ys∧fc (ρ++ys) σ λ b B9=>match b with
    |true=>fe (ρ++ys) B9 λ y S7=>R (some y) S7
    |false=>R .none B9) xs [] B4 λ ys H6=>∀c,H6 c=none->Q (.ref c) (H6.set c (.list ys))):=λ A s ρ σ Q rm S F h=>by
 rw[eval_ListComp]
 refine FI (Q:=Q) hW hE sc rm S F hk nd Bg hi hc he hs h λ D C B9 s' x q _=>?_
 refine A0 (x.ns) λ m hm=>?_
 refine⟨m,hm,λ h' sb=>?_⟩
 have hZ:=x.letGo sb;delta hZ a b c
 exact⟨.ref D,B9,q,.ref D,a,b,c⟩
end
inductive Oh(h:Heap):Fl->Flow->Prop
 |next:Oh h .next .next
 |brk:Oh h .brk .brk
 |cont:Oh h .cont .cont
 |ret {pv:PV} {v:Value}:VR h pv v->Oh h (.ret pv) (.ret v)
def CO(W:Wd)(ns:List (Option Str))(env:Env)(σ:PH)(s:Shared)(Q:Fl->List PV->PH->Prop):Flow->Shared->Prop:=λ f s'=>
 ∃fl O5 B9,Q fl O5 B9∧Oh s'.heap fl f∧SR W B9 s'.heap∧FR W ns O5 env B9 s'.heap∧IA env σ s.heap B9 s'.heap∧Sm s s'
def Ex(W:Wd)(n:Nat)(ns:List (Option Str))(env:Env)(st:Stmt)(f:TS):Prop:=
 ∀A s ρ σ Q,Rm n A->SR W σ s.heap->FR W ns ρ env σ s.heap->f ρ σ Q->wpAny W.M A (exec st env) (CO W ns env σ s Q) (λ _ _=>False) s
def UV(W:Wd)(n:Nat)(ns:List (Option Str))(env:Env)(b:List Stmt)(f:TS):Prop:=
 ∀A s ρ σ Q,Rm n A->SR W σ s.heap->FR W ns ρ env σ s.heap->f ρ σ Q->wpAny W.M A (execs b env) (CO W ns env σ s Q) (λ _ _=>False) s
section
variable{W:Wd}{n:Nat}{ns:List (Option Str)}{ρ:List PV}{env:Env}{A:Around}{s I2:Shared}{σ B4:PH}{Q:Fl->List PV->PH->Prop}
theorem CO.step(x:IA env σ s.heap B4 I2.heap)(m:Sm s I2){f:Flow}{s':Shared}(p:CO W ns env B4 I2 Q f s'):CO W ns env σ s Q f s':=
 let⟨fl,O5,B9,a,b,c,d,e,g⟩:=p;⟨fl,O5,B9,a,b,c,d,x.trans e,m.trans g⟩
theorem Du:UV W n ns env [] (λ ρ σ Q=>Q .next ρ σ):=λ A s ρ σ Q _ S F q=>wpAny_execs_nil ⟨_,_,_,q,.next,S,F,.refl _ _ _,.refl _⟩
theorem YK{st:Stmt}{r:List Stmt}{f g:TS}(h1:Ex W n ns env st f)(h2:UV W n ns env r g):UV W n ns env (st::r) (λ ρ σ Q=>f ρ σ λ fl O5 B9=>match fl with
  |.next=>g O5 B9 Q
  |.brk=>Q .brk O5 B9
  |.cont=>Q .cont O5 B9
  |.ret v=>Q (.ret v) O5 B9):=λ A s ρ σ Q rm S F h=>by
 refine wpAny_execs_cons (I7 (h1 A s ρ σ _ rm S F h) (λ f s' p=>?_) λ _ _ e=>e)
 intros p fl O5 B9 hZ;delta hZ q r S' F' x m
 cases r with
 |next=>exact I7 (h2 A s' O5 B9 Q rm S' F' q) (λ _ _ p=>p.step x m) λ _ _ e=>e
 |brk=>exact⟨_,_,_,q,.brk,S',F',x,m⟩
 |cont=>exact⟨_,_,_,q,.cont,S',F',x,m⟩
 |ret r=>exact⟨_,_,_,q,.ret r,S',F',x,m⟩
theorem Dw{p:Pos}:Ex W n ns env (.Pass p) (λ ρ σ Q=>Q .next ρ σ):=λ A s ρ σ Q _ S F q=>wpAny_Pass ⟨_,_,_,q,.next,S,F,.refl _ _ _,.refl _⟩
theorem Dz{p:Pos}:Ex W n ns env (.Continue p) (λ ρ σ Q=>Q .cont ρ σ):=λ A s ρ σ Q _ S F q=>wpAny_Continue ⟨_,_,_,q,.cont,S,F,.refl _ _ _,.refl _⟩
theorem Dv{p:Pos}:Ex W n ns env (.Return none p) (λ ρ σ Q=>Q (.ret .none) ρ σ):=λ A s ρ σ Q _ S F q=>wpAny_Return_none ⟨_,_,_,q,.ret .none,S,F,.refl _ _ _,.refl _⟩
theorem Lu{e:Expr}{p:Pos}{f:T PV}(he:Ev W n ns env e f):Ex W n ns env (.Return (some e) p) (λ ρ σ Q=>f ρ σ λ x B4=>Q (.ret x) ρ B4):=λ A s ρ σ Q rm S F h=>
 wpAny_Return_some (he.bind rm S F h λ v I2 pv B4 q r N5 U4 x m=>⟨_,_,_,q,.ret r,N5,U4,.of x,m⟩)
theorem QD(hE:U5 env):interactive env=false:=by
 unfold interactive;rw[hE.kind];rfl
theorem Dy{e:Expr}{p:Pos}{f:T PV}(hE:U5 env)(hs:swapsWith e none p.line env=pure false)(he:Ev W n ns env e f):Ex W n ns env (.Expr e p) (λ ρ σ Q=>f ρ σ λ _ B4=>Q .next ρ B4):=λ A s ρ σ Q rm S F h=>
 wpAny_Expr_any (he.bind rm S F h λ v I2 pv B4 q r N5 U4 x m=>⟨_,_,_,q,.next,N5,U4,.of x,m⟩) (QD hE) hs
theorem YO{e:Expr}{p p':Pos}{x:Str}{i:Nat}{f:T PV}(hE:U5 env)(hi:ns[i]? =some (some x))(hk:env.kindOf x=some .local∨(x≠"__class__"∧env.kindOf x=some .cell))(hs:swapsWith e (some (.Name x p')) p.line env=pure false)(he:Ev W n ns env e f):
  Ex W n ns env (.Assign [.Name x p'] e p) (λ ρ σ Q=>f ρ σ λ v B4=>Q .next (ρ.set i v) B4):=λ A s ρ σ Q rm S F h=>
 wpAny_Assign_Name (he.bind rm S F h λ v I2 pv B4 q r N5 U4 x m=>sW (L:=false) hE N5 U4 hi (hk.imp id λ k=>⟨rfl,k⟩) r λ h' tk S' F' st=>
  ⟨_,_,_,q,.next,S',F',(fW.of x).trans (st.mono λ _=>KZ.own),m.trans (.mk' _ _ _)⟩) hs
theorem Ar.len{L:Bool}{es:List Expr}{is:List Nat}(tg:Ar ns env L es is):is.length=es.length:=by
 induction tg with
 |nil=>rfl
 |cons _ _ _ ih=>simp[ih]
theorem Eb{e:Expr}{p tp:Pos}{c k:Nat}{es:List Expr}{is:List Nat}{f:T PV}(hE:U5 env)(tg:Ar ns env false es is)(hl:es.length=k+1)(hs:swapsWithSole [.Tuple es c tp] e p.line env=pure false)(hw:swappedStores [.Tuple es c tp] e env=pure none)(he:Ev W n ns env e f):
  Ex W n ns env (.Assign [.Tuple es c tp] e p) (λ ρ σ Q=>f ρ σ λ x B4=>∃xs,x=.tup xs∧xs.length=is.length∧Q .next (aO is xs ρ) B4):=λ A s ρ σ Q rm S F h=>by
 have li:=tg.len
 refine Assign_Tuple (he.bind rm S F h λ v I2 pv B4 q r N5 U4 x m=>?_) hs hw
 intros q xs hZ;obtain rfl:=hZ.1;delta hZ hZ lx q
 exact pJ (L:=false) hE (.tup tg hl) rm N5 U4 r (by simp only[eI];rw[F7 (by lia)]) λ h' tk S' F' st=>
  ⟨_,_,_,q,.next,S',F',(fW.of x).trans (st.mono λ _=>KZ.own),m.trans (.mk' _ _ _)⟩
theorem YN{e:Expr}{p tp p1 p2:Pos}{c:Nat}{x y:Str}{i j:Nat}{f:T PV}(hE:U5 env)(hi:ns[i]? =some (some x))(hj:ns[j]? =some (some y))(hx:env.kindOf x=some .local)(hy:env.kindOf y=some .local)(ak:i≠j)
  (hs:swapsWithSole [.Tuple [.Name x p1,.Name y p2] c tp] e p.line env=pure false)(hw:swappedStores [.Tuple [.Name x p1,.Name y p2] c tp] e env=pure (some [x,y]))(he:Ev W n ns env e f):
  Ex W n ns env (.Assign [.Tuple [.Name x p1,.Name y p2] c tp] e p) (λ ρ σ Q=>f ρ σ λ x B4=>∃xs,x=.tup xs∧xs.length=[i,j].length∧Q .next (aO [i,j] xs ρ) B4):=λ A s ρ σ Q rm S F h=>by
 refine Assign_Tuple_swapped (he.bind rm S F h λ v I2 pv B4 q r N5 U4 t m=>?_) hs hw
 intros q xs hZ;obtain rfl:=hZ.1;delta hZ hZ lx q
 cases r with
 |@tup xs a vs ht rs _=>
  cases rs with
  |nil=>simp at lx
  |@cons a1 v1 du dy r1 s9=>
   cases s9 with
   |nil=>simp at lx
   |@cons a2 v2 dq dw r2 s8=>
    cases s8 with
    |cons=>simp at lx
    |nil=>
     refine wpAny_unpackItems_tuple (items:=#[v1,v2]) rm.hd ht λ h' eb=>?_
     have kp:∀b o,I2.heap.get? b=some o->h'.get? b=some o:=λ b o e=>eb b o (by rintro rfl;exact Nat.lt_irrefl _ (kM e)) e
     have S':=N5.keeps kp
     have F':=U4.eN N5 (.keeps kp)
     have m1:nT I2.heap h':=.keeps kp
     show wpAny _ _ (holding [v1] (bindName env y v2)>>=λ _=>(holding [] (bindName env x v1)>>=λ _=>pure ())) _ _ _
     refine B6 (K2 (wpAny_bindName (sW (L:=false) (s:={I2 with heap:=h'}) hE S' F' hj (.inl hy) (r2.V7 m1) λ h2 Pe S2 F2 Pi=>?_)))
     refine B6 (K2 (wpAny_bindName (sW (L:=false) (s:={I2 with heap:=h2,toks:=Pe}) hE S2 F2 hi (.inl hx) ((r1.V7 m1).V7 (Pi.V7 S' F' λ _=>KZ.own)) λ h3 ed S3 F3 Tf=>?_)))
     refine D4 ⟨.next,_,B4,q,.next,S3,?_,((fW.of t).trans (fW.of (.keeps kp))).trans ((Pi.trans Tf).mono λ _=>KZ.own),m.trans (.mk' _ _ _)⟩
     have e:aO [i,j] [a1,a2] ρ=(ρ.set j a2).set i a1:=by
      show(ρ.set i a1).set j a2=_
      rw[List.set_comm _ _ ak]
     rw[e];exact F3
theorem Ef{o e:Expr}{p p':Pos}{x:Str}{f g:T PV}{eF:String}{tb:fM}(hW:W.Ok)(x7:W.jL tb)(hx:x=Str.ofString eF)(hs:swapsWith e (some (.Attribute o x p')) p.line env=pure false)(he:Ev W n ns env e f)(ho:Ev W n ns env o g):
  Ex W n ns env (.Assign [.Attribute o x p'] e p) (λ ρ σ Q=>f ρ σ λ v B4=>g ρ B4 λ ov H6=>kP tb H6 eF v (λ R9=>Q .next ρ R9) ov):=λ A s ρ σ Q rm S F h=>by
 subst hx
 refine plainObj_wpAny_Assign_Attribute (he.bind rm S F h λ v I2 pv B4 q r N5 U4 t m=>?_) hs
 refine ho.bind rm N5 U4 q λ ov fD u0 H6 q r2 aR pM t2 m2=>?_
 cases r2 with
 |ref a=>
  intros q C dx fs hZ;delta hZ e1 e2 e3 e4 q
  exact MC hW aR e1 e2 (x7.fld _ _ e3) e4 (r.V7 (t2.V7 N5)) λ h' tk S' t'=>⟨_,_,_,q,.next,S',pM.eN aR t',((fW.of t).trans (.of t2)).trans (.of t'),(m.trans m2).trans (.mk' _ _ _)⟩
 |_=>exact q.elim
theorem Ed{o i e:Expr}{p p':Pos}{f g k:T PV}(hW:W.Ok)(hs:swapsWith e (some (.Subscript o i p')) p.line env=pure false)(he:Ev W n ns env e f)(ho:Ev W n ns env o g)(hi:Ev W n ns env i k):
  Ex W n ns env (.Assign [.Subscript o i p'] e p) (λ ρ σ Q=>f ρ σ λ v B4=>g ρ B4 λ ov H6=>k ρ H6 λ iv R9=>kO R9 iv v (λ mW=>Q .next ρ mW) ov):=λ A s ρ σ Q rm S F h=>by
 refine wpAny_Assign_Subscript (he.bind rm S F h λ v I2 pv B4 q r N5 U4 t m=>?_) hs
 refine ho.bind rm N5 U4 q λ ov fD u0 H6 q r2 aR pM t2 m2=>?_
 refine hi.bind rm aR pM q λ iv aV ef R9 q r3 eK rY t3 m3=>?_
 refine I7 (MB rm eK (r2.V7 (t3.V7 aR)) r3 (r.V7 ((t2.trans t3).V7 N5)) q) (λ _ LS p=>?_) λ _ _ e=>e
 intros p mW hZ;delta hZ q CM t4 m4
 exact⟨_,_,_,q,.next,CM,rY.eN eK t4,(((fW.of t).trans (.of t2)).trans (.of t3)).trans (.of t4),((m.trans m2).trans m3).trans m4⟩
theorem Rt{c:Expr}{a b:List Stmt}{p:Pos}{f:T Bool}{g k:TS}(hc:FQ W n ns env c f)(ha:UV W n ns env a g)(hb:UV W n ns env b k):
  Ex W n ns env (.If c a b p) (λ ρ σ Q=>f ρ σ λ t B4=>match t with
  |true=>g ρ B4 Q
  |false=>k ρ B4 Q):=λ A s ρ σ Q rm S F h=>by
 refine wpAny_If (I7 (hc A s ρ σ _ rm S F h) (λ t I2 p=>?_) λ _ _ e=>e)
 intros p B4 hZ;delta hZ q N5 x m
 have U4:=F.eN S x
 cases t with
 |true=>exact I7 (ha A I2 ρ B4 Q rm N5 U4 q) (λ _ _ p=>p.step (.of x) m) λ _ _ e=>e
 |false=>exact I7 (hb A I2 ρ B4 Q rm N5 U4 q) (λ _ _ p=>p.step (.of x) m) λ _ _ e=>e
theorem YL{c:Expr}{b:List Stmt}{p:Pos}{f:T Bool}{g:TS}(hc:FQ W n ns env c f)(hb:UV W n ns env b g):
  Ex W n ns env (.While c b [] p) (λ ρ σ Q=>∃k,uP f g k ρ σ Q):=λ A s ρ σ Q rm S F h=>by
 intros h k h
 refine wpAny_While ?_
 refine codeAny_whileLoop (λ m s'=>∃O5 B9,uP f g m O5 B9 Q∧SR W B9 s'.heap∧FR W ns O5 env B9 s'.heap∧IA env σ s.heap B9 s'.heap∧Sm s s') ?_ k ⟨ρ,σ,h,S,F,.refl _ _ _,.refl _⟩
 intro m s' hQ;intros hQ O5 B9 hZ;delta hZ h S' F' x sm
 cases m with
 |zero=>exact h.elim
 |succ m=>
  refine I7 (hc A s' O5 B9 _ rm S' F' h) (λ t I2 p=>?_) λ _ _ e=>e.elim
  intros p B4 hZ;delta hZ q N5 W6 m₁
  have U4:=F'.eN S' W6
  have xx:=x.trans (.of W6)
  cases t with
  |false=>exact wpAny_execs_nil ⟨.next,_,_,q,.next,N5,U4,xx,sm.trans m₁⟩
  |true=>
   refine I7 (hb A I2 O5 B4 _ rm N5 U4 q) (λ fl fD p=>?_) λ _ _ e=>e.elim
   intros p fl Gs H6 hZ;delta hZ q r aR pM cD m₂
   have x3:=xx.trans cD
   have m3:=(sm.trans m₁).trans m₂
   cases r with
   |next=>exact⟨m,K5 _,Gs,H6,q,aR,pM,x3,m3⟩
   |cont=>exact⟨m,K5 _,Gs,H6,q,aR,pM,x3,m3⟩
   |brk=>exact⟨.next,_,_,q,.next,aR,pM,x3,m3⟩
   |ret r=>exact⟨_,_,_,q,.ret r,aR,pM,x3,m3⟩
theorem JV{t:Expr}{k:Nat}{is:List Nat}{b:List Stmt}{g:TS}{turn:PV->TS}{iv:PV}{it:Addr}(hE:U5 env)(rm:Rm n A)(tg:Tg ns env false t k is)(hb:UV W n ns env b g)
  (ht:∀x ρ σ R,turn x ρ σ R->∃ys,eI k x=some ys∧g (aO is ys ρ) σ R)
  (nI:I2.heap.get? it=none)(bI:W.h₀.get? it=none)(oI:¬rL env it)
  (l:List PV)(s:Shared)(S:SR W σ s.heap)(F:FR W ns ρ env σ s.heap)(x:IA env B4 I2.heap σ s.heap)(sm:Sm I2 s)(st:M9 B4 iv σ)(nU:σ it=none)(ir:rX W σ s.heap it iv l)
  (h:jW (M9 B4 iv) turn l ρ σ Q):
  codeAny W.M A (.forLoop t (.ref it) b [] env) (λ r s'=>match r with|.ok f=>CO W ns env B4 I2 Q f s'|.error e=>cameBackBy W.M A env (λ _ _=>False) e s') s:=by
 refine codeAny_forLoop_any (λ m s=>∃l ρ σ,m=l.length∧SR W σ s.heap∧FR W ns ρ env σ s.heap∧IA env B4 I2.heap σ s.heap∧Sm I2 s∧M9 B4 iv σ∧σ it=none∧rX W σ s.heap it iv l∧jW (M9 B4 iv) turn l ρ σ Q) ?_ l.length ⟨l,ρ,σ,rfl,S,F,x,sm,st,nU,ir,h⟩
 intro m s hQ;intros hQ l ρ σ hZ;clear ir nU;obtain⟨rfl,S,F,x,sm,st,nU,ir,h⟩:=hZ
 refine A0 (ir.has) λ oi hZ=>?_;delta hZ ei ni
 have step:∀h',OU it s.heap h'->IA env B4 I2.heap σ h':=λ h' k'=>⟨λ b o e q p=>by
  have:=x.bO b o e q p
  exact⟨k' b o (by clear ir bI ei oI nU k';rintro rfl;rw[nI]at e;cases e) this.1,this.2⟩,x.IE⟩
 refine ir.next rm S nU bI (λ y r hl u h' tk ru Ht S' k'=>?_) λ hl h' tk S' k'=>?_
 ·clear ir nI x;subst hl
  have m1:nT s.heap h':=(S.fK nU bI ei ni k').2
  have F':=F.fK oI k' m1
  refine A0 (ht _ _ _ _ h) λ ys hZ=>?_;delta hZ hy hg
  refine JQ (σ:=σ) tg Ht ?_
  refine pJ (s:={s with heap:=h',toks:=tk}) hE tg rm S' F' ru hy λ h2 Pe S2 F2 t2=>?_
  have m2:=t2.V7 S' F' λ _=>KZ.own
  have x2:=(step h' k').trans (t2.mono λ _=>KZ.own)
  refine A0 (Ht.has) λ o1 hZ=>?_;delta hZ ck
  have QI:∀o,h'.get? it=some o->h2.get? it=some o:=λ o e=>(t2.bO it o e nU λ q=>oI q.own).1
  refine I7 (hb A {s with heap:=h2,toks:=Pe} _ σ _ rm S2 F2 hg) (λ fl aV p=>?_) λ _ _ e=>e.elim
  intros p fl Gq R9 hZ;delta hZ q r3 eK rY gS Wb
  have x4:=x2.trans gS
  have m4:Sm I2 aV:=(sm.trans (.mk' _ _ _)).trans Wb
  have nx:M9 B4 iv R9->R9 it=none∧rX W R9 aV.heap it iv r:=λ w=>⟨(gS.bO it o1 (QI _ ck) nU oI).2,Ht.of (m2.trans (gS.V7 S2 F2 λ _ e=>e)) (λ o e=>(gS.bO it o (QI _ e) nU oI).1) (st.back w)⟩
  cases r3 with
  |next=>generalize q=hZ;try clear q;delta hZ w q;have hZ:=nx w;delta hZ i1 i2;exact⟨r.length,K5 _,r,Gq,R9,rfl,eK,rY,x4,m4,w,i1,i2,q⟩
  |cont=>generalize q=hZ;try clear q;delta hZ w q;have hZ:=nx w;delta hZ i1 i2;exact⟨r.length,K5 _,r,Gq,R9,rfl,eK,rY,x4,m4,w,i1,i2,q⟩
  |brk=>exact⟨.next,_,_,q,.next,eK,rY,x4,m4⟩
  |ret r=>exact⟨_,_,_,q,.ret r,eK,rY,x4,m4⟩
 ·clear ir;subst hl
  have m1:nT s.heap h':=(S.fK nU bI ei ni k').2
  exact wpAny_execs_nil ⟨.next,_,_,h,.next,S',F.fK oI k' m1,step h' k',sm.trans (.mk' _ _ _)⟩
theorem iM(F:FR W ns ρ env σ s.heap){a:Addr}(e:s.heap.get? a=none):¬rL env a:=λ q=>by
 rcases q with rfl|⟨x,hx⟩
 ·refine A0 (F.val) λ m hZ=>?_;refine A0 hZ.1 λ o P4=>?_;intros P4 _ fU;intros fU _ sE;delta sE ho;try clear hZ;rw[e]at ho;cases ho
 ·refine A0 (F.cells x a hx) λ v hZ=>?_;intros hZ o Q0;delta Q0 ho;rw[e]at ho;cases ho
theorem YM{t iter:Expr}{k:Nat}{is:List Nat}{b:List Stmt}{p:Pos}{f:T PV}{g:TS}{turn:PV->TS}(hW:W.Ok)(hE:U5 env)(tg:Tg ns env false t k is)(hi:Ev W n ns env iter f)(hb:UV W n ns env b g)
  (ht:∀x ρ σ R,turn x ρ σ R->∃ys,eI k x=some ys∧g (aO is ys ρ) σ R)(hs:∀x,foldedSetIterable iter env x=pure x):
  Ex W n ns env (.For t iter b [] p) (λ ρ σ Q=>f ρ σ λ iv B4=>∃xs,mF B4 iv xs∧jW (M9 B4 iv) turn xs ρ B4 Q):=λ A s ρ σ Q rm S F h=>by
 refine wpAny_For (hi.bind rm S F h λ v I2 pv B4 q r N5 U4 x m=>?_) hs
 intros q xs hZ;delta hZ hit hf
 refine QL hW N5 r hit λ it h' nU bI nI ir kp=>?_
 refine codeAny_mono (JV (I2:=I2) (B4:=B4) (s:={I2 with heap:=h'}) hE rm tg hb ht nI bI (iM U4 nI) xs (N5.keeps kp) (U4.eN N5 (.keeps kp)) (.of (.keeps kp)) ⟨h',I2.toks,rfl⟩ (by clear F U4 S N5 bI h hE hW hb hi hit hs ht iter kp nI rm tg;clear hf ir r;cases pv<;>first|trivial|rfl) nU ir hf) λ r s' p=>?_
 clear hf ir;cases r with
 |ok f=>exact p.step (.of x) m
 |error e=>exact p
end
section
variable{W:Wd}{n:Nat}{ns:List (Option Str)}{ρ:List PV}{env:Env}{A:Around}{s I2:Shared}{σ B4:PH}{Q:Fl->List PV->PH->Prop}
theorem Sg{pos:Pos}{f:Value}{es:List Expr}{g:T (List PV)}{Q:List PV->PH->Prop}{R:Value->Shared->Prop}(hW:W.Ok)(hk:mR W f)(hs:UW W n ns env es g)(rm:Rm n A)(S:SR W σ s.heap)(F:FR W ns ρ env σ s.heap)
  (h:g ρ σ Q)(hR:∀vs I2 xs B4,Q xs B4->bP I2.heap xs vs->SR W B4 I2.heap->FR W ns ρ env B4 I2.heap->kC σ s.heap B4 I2.heap->Sm s I2->wpAny W.M A (call f vs) R (λ _ _=>False) I2):
  wpAny W.M A (callWith pos f [] (backTo pos (starEach es env)) []) R (λ _ _=>False) s:=by
 have hp:(backTo pos (starEach es env)).any (·.1)=false:=by
  unfold backTo
  rw[nP]
  have:=hs.1
  rw[G3]at this
  rw[List.any_eq_false]
  intro x hx
  have:=this x hx
  simpa using this
 refine callWith_of (P:=λ h=>W.K.In h) (by rw[hp];rfl) (λ hh X=>?_) (mJ hp ?_)
 ·clear hR;cases hk with
  |builtin i=>exact⟨.machine,.inr (.inl rfl),.now⟩
  |type i=>exact⟨.machine,.inr (.inl rfl),.now⟩
  |ref k=>exact keeps_K k hh X
 ·refine I7 (hs.2 A s ρ σ _ pos rm S F h) (λ vs I2 ⟨xs,B4,xP,l₁,Y1,N5,W6,Y7⟩=>⟨hW.ID.keeps N5.keep,?_⟩) λ _ _ z=>z
  exact hR vs I2 xs B4 xP Y1 N5 (F.eN S W6) W6 Y7
theorem Dx{t e:Expr}{k:Nat}{is:List Nat}{b:List Stmt}{p np cp:Pos}{f:T PV}{g:TS}{turn:PV->TS}(hW:W.Ok)(hE:U5 env)(hk:env.kindOf "reversed"=some .globalImplicit)(gl:pL W "reversed" (.type "reversed"))(he:rH e=true)
  (tg:Tg ns env false t k is)(hi:Ev W n ns env e f)(hb:UV W n ns env b g)
  (ht:∀x ρ σ R,turn x ρ σ R->∃ys,eI k x=some ys∧g (aO is ys ρ) σ R):
  Ex W n ns env (.For t (.Call (.Name "reversed" np) [e] [] cp) b [] p) (λ ρ σ Q=>f ρ σ λ iv B4=>∃a xs,iv=.ref a∧B4 a=some (.list xs)∧xs.length<=2^24∧jW (M9 B4 iv) turn xs.reverse ρ B4 Q):=λ A s ρ σ Q rm S F h=>by
 refine wpAny_For ?_ λ _=>rfl
 show wpAny _ _ (do callWith cp (<-eval (.Name "reversed" np) env) [] (backTo cp (starEach [e] env)) (backToKw cp [])) _ _ _
 refine B6 (hW.glob hE hk (by decide) S gl ?_)
 refine Sg (Q:=λ l B4=>match l with
  |[iv]=>∃a xs,iv=.ref a∧B4 a=some (.list xs)∧xs.length<=2^24∧jW (M9 B4 iv) turn xs.reverse ρ B4 Q
  |_=>False) hW (.type "reversed") (JZ he hi RF) rm S F h λ vs I2 xs B4 q r N5 U4 W6 m₁=>?_
 cases r with
 |nil=>exact q.elim
 |@cons pv v r6 Vh rv rr=>
  cases rr with
  |cons=>exact q.elim
  |nil=>
   intros q a ys hZ;obtain rfl:=hZ.1;delta hZ hZ ea hz hf
   cases rv
   refine ee2.e (N5.list ea) λ us kk hZ=>?_;delta hZ e1 r1
   have l1:=r1.length
   refine call_reversed_list (Q3 e1) ?_
   have fr:I2.heap.get? I2.heap.objs.size=none:=W7 (D7 _)
   have kp:=Q6 I2.heap (revObj a ((us.toArray.size:Int) - 1))
   have hit:Heap.IsRevIter (I2.heap.push (revObj a ((us.toArray.size:Int) - 1))) I2.heap.objs.size a ((ys.length:Int) - 1):=⟨_,N6 _ rfl,rfl,by
    show Data.fields #[.ref a,rawInt ((us.toArray.size:Int) - 1)]=_
    rw[H1,l1]⟩
   have ir:rX W B4 (I2.heap.push (revObj a ((us.toArray.size:Int) - 1))) I2.heap.objs.size (.ref a) ys.reverse:=by
    have:=rX.rev (W:=W) (i:=ys.length) ea hit (D7 _)
    rwa [cB]at this
   refine wpAny_pyIter_revIter (s:={I2 with heap:=I2.heap.push (revObj a ((us.toArray.size:Int) - 1))}) hit ?_
   refine codeAny_mono (JV (I2:=I2) (B4:=B4) (iv:=.ref a) (s:={I2 with heap:=I2.heap.push (revObj a ((us.toArray.size:Int) - 1))}) hE rm tg hb ht fr (N5.fL fr) (iM U4 fr) ys.reverse (N5.keeps kp) (U4.eN N5 (.keeps kp)) (.of (.keeps kp)) ⟨_,I2.toks,rfl⟩ rfl (N5.fresh fr) ir hf) λ r s' p=>?_
   cases r with
   |ok f=>exact p.step (.of W6) m₁
   |error e=>exact p
end
theorem bB{α:Type}:∀{ns:List Str} {vs:List α} {i:Nat} {x:Str},ns.Nodup->ns[i]? =some x->(ns.zip vs).lookup x=vs[i]?
 |[],_,i,x,_,h=>by simp at h
 |n::ns,[],i,x,_,h=>by simp
 |n::ns,v::vs,0,x,_,h=>by simp at h;subst h;simp
 |n::ns,v::vs,i+1,x,nd,h=>by
  simp at h
  have hx:x≠n:=λ e=>(N7.mp nd).1 (e▸B5 h)
  have:(x==n)=false:=by simpa using hx
  rw[gC,I1,this]
  simpa using bB (N7.mp nd).2 h
theorem vV{α:Type}:∀{ns:List Str} {vs:List α},ns.Nodup->ns.length=vs.length->ns.filterMap (λ n=>((ns.zip vs).lookup n).map (n,·))=ns.zip vs:=by
 intro ns vs nd hl
 have gen:∀(pre post:List Str) (vp vq:List α),ns=pre++post->pre.length=vp.length->vs=vp++vq->post.filterMap (λ n=>((ns.zip vs).lookup n).map (n,·))=post.zip vq:=by
  intro pre post
  induction post generalizing pre with
  |nil=>intros;simp
  |cons x r ih=>
   intro vp vq e1 e2 e3
   cases vq with
   |nil=>clear ih nd;subst e1 e3;simp at hl;omega
   |cons v q=>
    have hx:ns[pre.length]? =some x:=by rw[e1];simp
    have hv:vs[pre.length]? =some v:=by rw[e3,e2];simp
    rw[List.filterMap_cons,bB nd hx,hv]
    simp only[fX,gC]
    rw[ih (pre++[x]) (vp++[v]) q (by rw[e1];simp) (by simp[e2]) (by rw[e3];simp)]
 exact gen [] ns [] vs rfl rfl rfl
theorem BL{α β:Type}(f:α->β->Sem (ForInStep β))(g:β->α->β)(hf:∀x b,f x b=pure (.yield (g b x))):∀(l:List α) (b:β),forIn l b f=pure (l.foldl g b)
 |[],b=>by rw[List.forIn_nil];rfl
 |x::r,b=>by rw[List.forIn_cons,hf];exact BL f g hf r (g b x)
theorem vT{α:Type}{a b:List (Str×α)}{x:Str}:(a++b).lookup x=(a.lookup x).or (b.lookup x):=by
 induction a with
 |nil=>simp
 |cons p r ih=>
  obtain⟨n,v⟩:=p
  rw[P7,I1,I1]
  split
  ·simp
  ·exact ih
theorem IH{α β:Type}{d:β}:∀{ns:List α} {us:List β} (h:us.length<ns.length),ns.zip us++[(ns[us.length],d)]=ns.zip (us++[d])
 |[],us,h=>by simp at h
 |n::ns,[],h=>by simp
 |n::ns,u::us,h=>by
  have:=IH (d:=d) (ns:=ns) (us:=us) (by simpa using h)
  simp only[H5,List.getElem_cons_succ,gC,P7,this]
theorem TY{ns:List Str}{vs ds:List Value}(nd:ns.Nodup)(h:vs.length+ds.length=ns.length)(k:Nat)(hk:k<=vs.length)(ex:List Value)(hex:ex.length=k):
  ((ns.drop (vs.length - k)).zip (ex++ds)).foldl (λ b (p:Str×Value)=>if((b.lookup p.1).isNone)=true then b++[(p.1,p.2)]else b) (ns.zip vs)=ns.zip (vs++ds):=by
 have le:vs.length<=ns.length:=h▸J6 ..
 have one:∀(k j:Nat) (ex:List Value),j+k=vs.length->ex.length=k->((ns.drop j).zip (ex++ds)).foldl (λ b (p:Str×Value)=>if((b.lookup p.1).isNone)=true then b++[(p.1,p.2)]else b) (ns.zip vs)
   =((ns.drop vs.length).zip ds).foldl (λ b (p:Str×Value)=>if((b.lookup p.1).isNone)=true then b++[(p.1,p.2)]else b) (ns.zip vs):=by
  intro k
  induction k with
  |zero=>intro j ex hj he;rw[show ex=[]from List.length_eq_zero_iff.mp he,show j=vs.length from hj];rfl
  |succ k ih=>
   intro j ex hj he
   cases ex with
   |nil=>cases he
   |cons e r=>
    have hv:j<vs.length:=Nat.lt_of_lt_of_eq (gK (eP k)) hj
    have BK:=D1 hv le
    rw[eW BK,P7,gC,J0]
    have hx:ns[j]? =some ns[j]:=C4 BK
    rw[bB nd hx,C4 hv]
    exact ih (j+1) r ((qX j k).trans hj) (Nat.succ.inj he)
 rw[one k (vs.length - k) ex (Nat.sub_add_cancel hk) hex]
 have two:∀(ds:List Value) (us:List Value),us.length+ds.length=ns.length->((ns.drop us.length).zip ds).foldl (λ b (p:Str×Value)=>if((b.lookup p.1).isNone)=true then b++[(p.1,p.2)]else b) (ns.zip us)=ns.zip (us++ds):=by
  intro ds
  induction ds with
  |nil=>intro us _;simp
  |cons d r ih=>
   intro us hu
   have BK:us.length<ns.length:=Nat.lt_of_lt_of_eq (gK (eP r.length)) hu
   rw[eW BK,gC,J0]
   have hx:ns[us.length]? =some ns[us.length]:=C4 BK
   rw[bB nd hx]
   simp only[jE (D7 _),Option.isNone_none,if_true]
   have e:ns.zip us++[(ns[us.length],d)]=ns.zip (us++[d]):=IH BK
   rw[e]
   have:=ih (us++[d]) (by rw[B0];exact(qX us.length r.length).trans hu)
   simp only[B0,H5,List.length_nil,Y4]at this
   rw[this];simp
 exact two ds vs h
theorem Sl{v d N:Nat}(h1:v<=N)(h2:d<=N)(h3:N<=v+d):A7 (d - N=0) (v - (d+v - N)=N - d) (min (d+v - N) d=d+v - N) (v+(d - (d+v - N))=N) (d+v - N<=v) (N - d<=v) (N - d<=N):=by
 refine A0 (sI h1) λ k e=>?_;clear h1;subst e
 refine A0 (sI (Nat.le_of_add_le_add_left h3)) λ m e=>?_;clear h3;subst e
 rw[aF]at h2
 refine A0 (sI (Nat.le_of_add_le_add_right h2)) λ j e=>?_;clear h2;subst e
 rw[show k+m+(m+j) - (m+j+k)=m from by rw[aF (m+j) k,kD];rw[Nat.add_sub_add_left];exact Nat.add_sub_cancel ..,show m+j+k - (k+m)=j from by rw[aF (m+j) k];rw[Nat.add_sub_add_left];exact W0 ..,W0,Nat.add_sub_cancel]
 exact⟨jD (by rw[aF (m+j),<-kD];exact J6 ..),rfl,fY (aA ..),rfl,J6 ..,aA ..,A9 (aA j m) (J6 ..)⟩
theorem xJ{s:Shared}{fd:FuncData}{ns:List Str}{vs ds:List Value}(hp:fd.params.posonlyargs=[])(ha:fd.params.args.map (·.arg)=ns)(hk:fd.params.kwonlyargs=[])(hv:fd.params.vararg=none)(hw:fd.params.kwarg=none)(nd:ns.Nodup)
  (hd:(ds=[]∧fd.defaults=.none)∨∃t o n,fd.defaults=.ref t∧s.heap.get? t=some o∧o.data=.seq ds.toArray n)
  (h1:vs.length<=ns.length)(h2:ds.length<=ns.length)(h3:ns.length<=vs.length+ds.length):
  BindsTo s fd ⟨vs,[]⟩ (ns.zip (vs++ds.drop (ds.length+vs.length - ns.length))):=λ M A E Q q=>by
 obtain⟨nm,qn,⟨po,ar,va,ko,kd,kw,df⟩,body,sc,gl,cl,Um,eo,doc,pm,an,cd,ct,bl⟩:=fd
 dsimp only at hp ha hk hv hw hd
 subst hp hk hv hw
 unfold bindArgs
 simp -iota only[ha,nO,X6,List.forIn_nil,C9]
 have seq:∀R:Option (Array Value)->Shared->Prop,(∀o:Option (Array Value),(o.getD #[]).toList=ds->R o s)->wpAny M A (seqItems? Um) R E s:=by
  intro R hR
  clear q h3 h2;rcases hd with⟨rfl,e⟩|⟨t,o,n,e,ho,av⟩
  ·rw[e];exact D4 (hR none rfl)
  ·rw[e];exact wpAny_seqItems ho av (hR _ (by simp))
 refine B6 (D4 ?_)
 refine B6 (seq _ λ o ho=>?_)
 rw[ho]
 dsimp only
 rw[G0 λ h=>jN.mpr h1 (D0 (F0.mp h).1)]
 have B:=Sl h1 h2 h3
 rw[B.1,List.drop_zero]
 have miss:((List.take (ns.length - ds.length) ns).filter λ n=>((ns.zip vs).lookup n).isNone)=[]:=by
  rw[R3]
  intro x hx
  refine A0 (List.mem_iff_getElem.mp hx) λ i hZ=>?_;intros hZ hi e
  have XS:i<ns.length - ds.length:=D1 hi (List.length_take_le ..)
  have:ns[i]? =some x:=by rw[List.getElem_take]at e;rw[<-e];exact C4 (D1 XS B.7)
  rw[bB nd this,C4 (D1 XS B.6)]
  simp
 rw[miss]
 simp -iota only[List.isEmpty_nil,Bool.not_true,cT,gZ]
 rw[BL _ (λ b (p:Str×Value)=>if((b.lookup p.1).isNone)=true then b++[(p.1,p.2)]else b) (λ p b=>by split<;>rfl)]
 refine B6 (D4 (B6 (D4 ?_)))
 simp -iota only[List.isEmpty_nil,Bool.not_true,cT,gZ]
 have fold:=TY (ns:=ns) (vs:=vs) (ds:=ds.drop (ds.length+vs.length - ns.length)) nd (by rw[U7];exact B.4) (ds.length+vs.length - ns.length) B.5 (ds.take (ds.length+vs.length - ns.length)) (by rw[Y2];exact B.3)
 rw[List.take_append_drop,B.2]at fold
 rw[fold,vV nd (by rw[B0,U7];exact B.4.symm)]
 exact D4 q
theorem FM{k:Str->Option NameKind}{x:Str}:∀{l:List (Str×Value)} {m:Str->Option Value},(∀p∈l,p.1≠x)->bindL k l m x=m x
 |[],m,_=>rfl
 |(n,v)::r,m,h=>by
  unfold bindL
  rw[FM λ p hp=>h p (.tail _ hp)]
  have:x≠n:=hM (h (n,v) (.head _))
  split
  ·exact G0 this
  ·rfl
theorem FO{k:Str->Option NameKind}{x:Str}:∀{l:List (Str×Value)} {m:Str->Option Value},(∀p∈l,p.1≠x)->bindC k l m x=m x
 |[],m,_=>rfl
 |(n,v)::r,m,h=>by
  unfold bindC
  rw[FO λ p hp=>h p (.tail _ hp)]
  have:x≠n:=hM (h (n,v) (.head _))
  split
  ·rfl
  ·exact G0 this
theorem FN{k:Str->Option NameKind}{x:Str}{v:Value}:∀{l:List (Str×Value)} {m:Str->Option Value},(l.map (·.1)).Nodup->(x,v)∈l->k x=some .local->bindL k l m x=some v
 |(n,w)::r,m,nd,h,hk=>by
  unfold bindL
  rw[I6,N7]at nd
  cases h with
  |head=>
   rw[F7 hk,FM (λ p hp q=>nd.1 (by rw[<-q];exact D2.mpr ⟨p,hp,rfl⟩))];exact F7 rfl
  |tail _ h=>exact FN nd.2 h hk
theorem FP{k:Str->Option NameKind}{x:Str}{v:Value}:∀{l:List (Str×Value)} {m:Str->Option Value},(l.map (·.1)).Nodup->(x,v)∈l->k x≠some .local->bindC k l m x=some v
 |(n,w)::r,m,nd,h,hk=>by
  unfold bindC
  rw[I6,N7]at nd
  cases h with
  |head=>
   rw[G0 hk,FO (λ p hp q=>nd.1 (by rw[<-q];exact D2.mpr ⟨p,hp,rfl⟩))];exact F7 rfl
  |tail _ h=>exact FP nd.2 h hk
theorem cL{x:Str}:∀{l:List (Str×NameKind)} {n:Nat} {acc:List (Str×Addr)},((x,NameKind.cell)∈l∨(acc.lookup x).isSome=true)->((cellsFrom n l acc).lookup x).isSome=true
 |[],n,acc,h=>by rcases h with h|h;cases h;exact h
 |(y,k)::r,n,acc,h=>by
  unfold cellsFrom
  by_cases hk:k=.cell
  ·subst hk
   rw[F7 (O2 _)]
   refine cL ?_
   by_cases q:x=y
   ·subst q;exact .inr (by rw[cK,F7 rfl];rfl)
   ·rcases h with h|h
    ·cases h with
     |head=>exact absurd rfl q
     |tail _ h=>exact .inl h
    ·exact .inr (by rw[cK,G0 q];exact h)
  ·rw[G0 (by simpa using hk)]
   refine cL ?_
   rcases h with h|h
   ·cases h with
    |head=>exact absurd rfl hk
    |tail _ h=>exact .inl h
   ·exact .inr h
inductive gI:PV->Value->Prop
 |none:gI .none .none
 |bool (b:Bool):gI (.bool b) (.bool b)
 |int (i:Int) (t:Tok):gI (.int i) (.int i t)
 |str (s:Str) (t:Tok):s.length<=sizeLine->gI (.str s) (.str s t)
inductive bV:List PV->List Value->Prop
 |nil:bV [] []
 |cons {x:PV} {v:Value} {xs:List PV} {vs:List Value}:gI x v->bV xs vs->bV (x::xs) (v::vs)
theorem gI.vr{x:PV}{v:Value}(h:Heap)(r:gI x v):VR h x v:=by cases r;exact .none;exact .bool _;exact .int _ _;exact .str _ _ (by assumption)
theorem bV.Tb{x:List PV}{v:List Value}(h:Heap)(r:bV x v):bP h x v:=by
 induction r with
 |nil=>exact .nil
 |cons a _ ih=>exact .cons (a.vr h) ih
structure Go(K:Frag)(a:Addr)(ps:List Str)(ds:List PV)(ls:List Str)(body:List Stmt)(sc:Scope)(fd:FuncData):Prop where
 obj:∃oc od Kd,K.lookup a=some ⟨oc,od,.func fd,Kd⟩
 body:fd.body=.stmts body
 scope:fd.scope=sc
 glob:fd.globals=mainGlobals
 blt:fd.builtins=builtinsNs
 code:codeIn K fd.code fd.qualname=true
 po:fd.params.posonlyargs=[]
 ar:fd.params.args.map (·.arg)=ps
 ko:fd.params.kwonlyargs=[]
 va:fd.params.vararg=none
 kw:fd.params.kwarg=none
 kind:sc.kind=.function
 gen:sc.isGenerator=false
 Ik:sc.isCoroutine=false
 Um:(ds=[]∧fd.defaults=.none)∨∃t c d vs n sl,fd.defaults=.ref t∧K.lookup t=some ⟨c,d,.seq (List.toArray vs) n,sl⟩∧bV ds vs
 nd:(ps++ls).Nodup
 ks:∀x∈ps,sc.names.lookup x=some .local∨sc.names.lookup x=some .cell
 nf:∀x∈sc.names,x.2=.free->x.1=("__class__":Str)
 nc:∀x∈ps,x≠("__class__":Str)
structure Gn(fd:FuncData):Prop where
 cl:fd.closure=[]
def Pr(Q:PV->PH->Prop)(fl:Fl)(_:List PV)(B9:PH):Prop:=match fl with
 |.ret v=>Q v B9
 |.next=>Q .none B9
 |_=>False
def Oa(W:Wd)(tb:fM)(n:Nat)(b:V0)(ρ:List PV)(σ:PH)(Q:PV->PH->Prop):Prop:=S8 W tb n b ρ σ (Pr Q)
section
variable{W:Wd}{n:Nat}{A:Around}{s:Shared}{σ:PH}
theorem Nh.deeper{env:Env}(hE:U5 env)(rm:Nh (n+1) A):Rm n (A.deeper env):=by
 refine A0 (rm.fr) λ l h1=>?_
 exact⟨rm.hd,by have:=rm.dp;show A.depth+1+8*n<=_;lia,by have:=rm.un;show A.units+3+40*n<=_;lia,env,l,by show A.frames.map _=_;rw[h1];rfl,hE.glob,hE.blt,hE.gen,hE.Ik⟩
theorem GS{l:List Str}{i:Nat}{x:Str}(h:(l.map some)[i]? =some (some x)):l[i]? =some x:=by
 rw[H9]at h
 cases e:l[i]? with
 |none=>rw[e]at h;cases h
 |some y=>rw[e]at h;cases h;rfl
theorem oY{l:List Str}(h:l.Nodup):distinct (l.map some):=λ i j x h1 h2=>by
 have a:=GS h1
 have b:=GS h2
 refine A0 (D3.mp a) λ hi ei=>?_
 refine A0 (D3.mp b) λ hj ej=>?_
 rcases qG i j with q|q|q
 ·exact absurd (ei.trans ej.symm) (List.pairwise_iff_getElem.mp h i j hi hj q)
 ·exact q
 ·exact absurd (ej.trans ei.symm) (List.pairwise_iff_getElem.mp h j i hj hi q)
def UU(W:Wd)(n:Nat)(f:Value)(args:List PV)(σ:PH)(Q:PV->PH->Prop):Prop:=
 ∀A s vs,Rm n A->SR W σ s.heap->bP s.heap args vs->codeAny W.M A (.call f ⟨vs,[]⟩) (λ r s'=>match r with|.ok (.ret v)=>K4 W σ s Q v s'|.ok _=>False|.error e=>False) s
def KW(W:Wd)(n:Nat)(f:Value)(args:List PV)(σ:PH)(Q:PV->PH->Prop):Prop:=
 ∀A s vs,Nh n A->SR W σ s.heap->bP s.heap args vs->codeAny W.M A (.call f ⟨vs,[]⟩) (λ r s'=>match r with|.ok (.ret v)=>K4 W σ s Q v s'|.ok _=>False|.error e=>False) s
theorem KW.r7{f:Value}{args:List PV}{Q:PV->PH->Prop}(x:KW W n f args σ Q):UU W n f args σ Q:=λ A s vs a=>x A s vs a.Yz
theorem UU.ok{f:Value}{args:List PV}{Q:PV->PH->Prop}(x:UU W n f args σ Q):J9 W n f args σ Q:=λ A s vs a b c=>wpAny_call (x A s vs a b c)
theorem Rr{tb:fM}{a:Addr}{ps ls:List Str}{ds:List PV}{body:List Stmt}{sc:Scope}{fd:FuncData}{b:V0}{args:List PV}{Q:PV->PH->Prop}(hW:W.Ok)(H:Go W.K a ps ds ls body sc fd)(Hc:Gn fd)
  (hb:∀env,U5 env->env.scope=sc->UV W n ((ps++ls).map some) env body (S8 W tb n b))
  (h1:args.length<=ps.length)(h2:ds.length<=ps.length)(h3:ps.length<=args.length+ds.length)
  (h:Oa W tb n b (args++ds.drop (ds.length+args.length - ps.length)++List.replicate ls.length .M7) σ Q):KW W (n+1) (.ref a) args σ Q:=λ A s vs rm S rv=>by
 refine ee3.e (H.obj) λ oc od Kd ho=>?_
 have X:=hW.ID.keeps S.keep
 have hl:=rv.length
 have Nn:ps.Nodup:=(O8.mp H.nd).1
 obtain⟨dv,Ud,dr⟩:∃dv:List Value,((dv=[]∧fd.defaults=.none)∨∃t o n,fd.defaults=.ref t∧s.heap.get? t=some o∧o.data=.seq dv.toArray n)∧bV ds dv:=by
  clear h h3 h2;rcases H.Um with⟨rfl,e⟩|⟨t,c,d,us,k,sl,e,ht,r⟩
  ·exact⟨[],.inl ⟨rfl,e⟩,.nil⟩
  ·exact⟨us,.inr ⟨t,_,k,e,X _ _ ht,rfl⟩,r⟩
 have ld:=(dr.Tb s.heap).length
 have bt:=xJ (s:=s) (vs:=vs) H.po H.ar H.ko H.va H.kw Nn Ud (by rw[hl];exact h1) (by rw[ld];exact h2) (by rw[ld,hl];exact h3)
 have Ti:bP s.heap (args++ds.drop (ds.length+args.length - ps.length)) (vs++dv.drop (dv.length+vs.length - ps.length)):=by
  rw[ld,hl];exact rv.append ((dr.Tb s.heap).drop _)
 generalize ff:vs++dv.drop (dv.length+vs.length - ps.length)=vv at bt Ti
 generalize bg:args++ds.drop (ds.length+args.length - ps.length)=aa at h Ti
 have Tp:aa.length=ps.length:=by rw[<-bg,B0,U7];exact(Sl h1 h2 h3).4
 have Zo:vv.length=ps.length:=by rw[Ti.length,Tp]
 refine codeAny_call_function rm.depth (X _ _ ho) rfl (by rw[H.scope];exact H.Ik) (by rw[H.scope];exact H.gen) H.body (codeRec_of X H.code) (bt _ _ _ _ ?_)
 rw[Hc.cl,H.scope]
 have mem:∀{x:Str} {v:Value},(x,v)∈ps.zip vv->x∈ps:=λ h=>(List.of_mem_zip h).1
 refine wpAny_newFunctionEnv_cells H.kind (λ x hx=>?_) λ env he I2 I=>?_
 ·rcases H.ks x.1 (List.of_mem_zip hx).1 with k|k
  ·exact .inl k
  ·exact .inr ⟨k,cL (.inl (mem_of_lookupK k))⟩
 refine A0 (I.done) λ mH hZ=>?_;intros hZ tk Q0;obtain rfl:=Q0.1;delta Q0 Q0 kp
 refine⟨(hW.nolimit.keeps S.keep).keeps kp,codeAny_func ?_⟩
 have YX:env.scope=sc:=by rw[he];rfl
 have ZA:∀x,env.kindOf x=sc.names.lookup x:=λ x=>by unfold Env.kindOf;rw[YX]
 have Ul:env.cells=cellsFrom (s.heap.objs.size+1) sc.names []:=by rw[he];rfl
 have eL:env.locals=s.heap.objs.size:=by rw[he];rfl
 have hE:U5 env:=by
  refine⟨by rw[YX];exact H.kind,by rw[he];exact H.glob,by rw[he];exact H.blt,by rw[YX];exact H.gen,by rw[YX];exact H.Ik,λ x nx hk=>?_⟩
  rw[ZA]at hk
  rcases hk with k|k
  ·refine A0 (qW.mp (cL (n:=s.heap.objs.size+1) (acc:=[]) (.inl (mem_of_lookupK k)))) λ c hc=>?_
   exact⟨c,BX nx (by rw[Ul];exact hc)⟩
  ·exact absurd (H.nf _ (mem_of_lookupK k) rfl) nx
 have Se:∀x c,DK env x=some c->env.cells.lookup x=some c:=λ x c=>mK
 have nL:s.heap.get? env.locals=none:=by rw[eL];exact W7 (D7 _)
 have nC:∀x c,DK env x=some c->s.heap.get? c=none:=λ x c e=>W7 (by have:=I.above x c (mU (Se x c e));rw[eL]at this;exact M8 this)
 have F:FR W ((ps++ls).map some) (aa++List.replicate ls.length .M7) env σ mH:=by
  refine⟨⟨_,I.toInCall.ns,λ i x pv e1 e2 ne=>?_⟩,λ x c e=>⟨_,I.cell x c (Se x c e)⟩,λ x y c e1 e2=>PySem.name_of_addr I.apart (mU (Se _ _ e1)) (mU (Se _ _ e2)),λ q hq=>?_,by simp[Tp],oY H.nd⟩
  ·have Ry:=GS e1
   by_cases hi:i<ps.length
   ·rw[I4 hi]at Ry
    rw[I4 (by rw[Tp];exact hi)]at e2
    refine A0 (Ti.get e2) λ v hZ=>?_;delta hZ e3 r
    have mz:(x,v)∈ps.zip vv:=by
     have:(ps.zip vv)[i]? =some (x,v):=by rw[List.getElem?_zip_eq_some];exact⟨Ry,e3⟩
     exact B5 this
    have Tm:((ps.zip vv).map (·.1)).Nodup:=by
     rw[show(ps.zip vv).map (·.1)=ps from by rw[List.map_fst_zip (by lia)]];exact Nn
    have xp:=mem mz
    refine⟨v,r.V7 (.keeps kp),?_⟩
    rcases H.ks x xp with k|k
    ·exact .inl ⟨(ZA x).trans k,FN Tm mz ((ZA x).trans k)⟩
    ·refine A0 (hE.cls x (H.nc x xp) (.inl ((ZA x).trans k))) λ c hc=>?_
     refine .inr ⟨.inl ((ZA x).trans k),c,hc,?_⟩
     have:=I.cell x c (Se x c hc)
     rwa [FP Tm mz (by rw[ZA,k];decide)]at this
   ·rw[N2 (by rw[Tp];lia),gM]at e2
    split at e2
    ·cases e2;exact absurd rfl ne
    ·cases e2
  ·have:s.heap.get? q=none:=by
    rcases hq with rfl|⟨x,e⟩
    ·exact nL
    ·exact nC x q e
   exact⟨S.fresh this,S.fL this⟩
 have N5:=S.keeps kp
 refine I7 (hb env hE YX (A.deeper env) {s with heap:=mH,toks:=tk} _ σ _ (rm.deeper hE) N5 F h) (λ f fD p=>?_) λ _ _ e=>e.elim
 intros p fl O5 B9 hZ;delta hZ q r aR pM x m
 have t:kC σ s.heap B9 fD.heap:=⟨λ b o e q=>x.bO b o (kp b o e) q (λ w=>by
  rcases w with rfl|⟨y,w⟩
  ·rw[nL]at e;cases e
  ·rw[nC y b w]at e;cases e),x.IE⟩
 have m':Sm s fD:=(Sm.mk' s mH tk).trans m
 cases r with
 |next=>exact⟨.none,B9,q,.none,aR,t,m'⟩
 |ret r=>exact⟨_,B9,q,r,aR,t,m'⟩
 |_=>exact q.elim
end
structure Iv(K:Frag)(C fI:Addr):Prop where
 makes:makesIn K C=true
 init:findIn K (.ref C) "__init__"=some (some (.ref fI))
 fn:typeIn K (.ref fI)=some (.type "function")
section
variable{W:Wd}{n:Nat}{A:Around}{s:Shared}{σ:PH}
theorem Rm.made{C:Addr}{vs:List Value}(rm:Rm (n+1) A):Rm n (A.under (.builtin "type.__call__" ⟨.ref C::vs,[]⟩)):=by
 refine ee2.e (rm.fr) λ e o hZ=>?_;delta hZ h1 h2 h3 h4 h5
 refine⟨rm.hd,?_,?_,e,o,?_,h2,h3,h4,h5⟩
 ·rw[depth_under_make];have:=rm.dp;lia
 ·have:=rm.un
  have e:(A.under (.builtin "type.__call__" ⟨.ref C::vs,[]⟩)).units=A.units+1:=rfl
  rw[e];lia
 ·have e2:(A.under (.builtin "type.__call__" ⟨.ref C::vs,[]⟩)).frames=pushEnvs [] A.frames:=rfl
  rw[e2,h1];rfl
theorem Mk{C fI:Addr}{args:List PV}{Q:PV->PH->Prop}(hW:W.Ok)(H:Iv W.K C fI)
  (h:∀x dx,x≠dx->σ x=none->σ dx=none->UU W n (.ref fI) (.ref x::args) ((σ.set dx (.attrs C [])).set x (.inst C dx)) (λ v B9=>v=.none∧Q (.ref x) B9)):J9 W (n+1) (.ref C) args σ Q:=λ A s vs rm S rv=>by
 obtain⟨hh,g,d,t,os⟩:=s
 have X:=hW.ID.keeps S.keep
 refine wpAny_call (make_core (makes_of X H.makes) (looks_findIn X H.init) (λ self=>bind_fn X self H.fn) (.inl rfl) ?_)
 have n1:hh.get? hh.objs.size=none:=W7 (D7 _)
 have hZ:=S.alloc (o:=.attrs C []) (ob:=emptyDict) n1 (Q6 hh emptyDict) (N6 _ rfl) (.attrs (es:=[]) .nil);delta hZ S1 t1 s1
 have sz:(hh.push emptyDict).objs.size=hh.objs.size+1:=Heap.size_push ..
 have n2:(hh.push emptyDict).get? (hh.objs.size+1)=none:=W7 (by rw[sz];exact D7 _)
 have hZ:=S1.alloc (o:=.inst C hh.objs.size) (ob:=instObj C hh.objs.size) n2 (Q6 _ _) (Heap.get?_push_at sz.symm rfl) .inst;delta hZ S2 t2 s2
 have ne:hh.objs.size+1≠hh.objs.size:=Nat.succ_ne_self _
 have sx:σ (hh.objs.size+1)=none:=by rw[PH.U0 _ _ ne]at s2;exact s2
 have kp:∀b o,hh.get? b=some o->((hh.push emptyDict).push (instObj C hh.objs.size)).get? b=some o:=λ b o e=>Q6 _ _ b o (Q6 _ _ b o e)
 have:=h _ _ ne sx s1 (A.under (.builtin "type.__call__" ⟨.ref C::vs,[]⟩)) ⟨(hh.push emptyDict).push (instObj C hh.objs.size),g,d,t,os⟩ (.ref (hh.objs.size+1)::vs) rm.made S2 (.cons (.ref _) (rv.V7 (.keeps kp)))
 refine codeAny_mono this λ r s' p=>?_
 cases r with
 |error e=>exact p.elim
 |ok f=>
  cases f with
  |ret v=>
   intros p pv B9 hZ;generalize hZ.1=P4;obtain rfl:=P4.1;delta P4 P4 q;delta hZ hZ r S' x m
   cases r
   refine⟨rfl,.ref (hh.objs.size+1),B9,q,.ref _,S',(t1.trans t2).trans x,Sm.trans ⟨_,t,rfl⟩ m⟩
  |_=>exact p.elim
end
section
variable{W:Wd}{n:Nat}{ns:List (Option Str)}{env:Env}
theorem uG(hW:W.Ok){op:CmpOp}{x y:PV}{v u:Value}{A:Around}{s:Shared}{σ:PH}{c:Bool}{R:Value->Shared->Prop}(rm:Rm n A)(S:SR W σ s.heap)(rx:VR s.heap x v)(ry:VR s.heap y u)(h:iR σ op x y=some c)
  (hR:∀s',SR W σ s'.heap->kC σ s.heap σ s'.heap->Sm s s'->R (.bool c) s'):wpAny W.M A (compareOp op v u) R (λ _ _=>False) s:=
 I7 (vZ (Q:=λ z B9=>z=.bool c∧B9=σ) hW rm S rx ry h ⟨rfl,rfl⟩) (λ z s' p=>by
  intros p pv B9 hZ;generalize hZ.1=P4;clear h S;obtain rfl:=P4.1;obtain rfl:=P4.2;try clear P4;delta hZ hZ r S' x' e'
  cases r
  exact hR s' S' x' e') λ _ _ e=>e
theorem Ej(hW:W.Ok){l r t:Expr}{op CR:CmpOp}{pos:Pos}{f g k:T PV}(hl:Ev W n ns env l f)(hr:Ev W n ns env r g)(ht:Ev W n ns env t k)(LF:behindInMarks CR t=false):
  Ev W n ns env (.Compare l [op,CR] [r,t] pos) (λ ρ σ Q=>f ρ σ λ x B4=>g ρ B4 λ y H6=>∃c,iR H6 op x y=some c∧match c with
  |false=>Q (.bool false) H6
  |true=>k ρ H6 λ z R9=>∃c,iR R9 CR y z=some c∧Q (.bool c) R9):=λ A s ρ σ Q rm S F h=>by
 show wpAny _ _ (do compareChain pos (<-eval l env) [op,CR] [eval r env,markedBehindIn CR t (eval t env)]) _ _ _
 rw[markedBehindIn_of_false LF]
 refine B6 (hl.bind rm S F h λ v I2 x B4 q Y1 N5 U4 W6 Y7=>?_)
 show wpAny _ _ (do
   let rv <-holding [v] (eval r env)
   standAt pos
   let c <-holding [v,rv] (compareOp op v rv)
   release [v,rv] [c]
   if <-holding [c,rv] (truthy c)then compareChain pos rv [CR] [eval t env]else pure c) _ _ _
 refine B6 (K2 (hr.bind (A:=A) rm N5 U4 q λ u fD y H6 lB tB aR pM cD jA=>?_))
 intros lB c hZ;delta hZ hc lB
 refine B6 (T9 (B6 (K2 (uG hW rm aR (Y1.V7 (cD.V7 N5)) tB hc λ aV eK gS yH=>?_))))
 refine B6 (wpAny_release (B6 (K2 (kG ?_))))
 clear hc;cases c with
 |false=>
  rw[G0 C5]
  exact D4 ⟨.bool false,H6,lB,.bool _,eK,(W6.trans cD).trans gS,(Y7.trans jA).trans yH⟩
 |true=>
  rw[F7 rfl]
  show wpAny _ _ (do
   let rv <-holding [u] (eval t env)
   standAt pos
   operate [u,rv] (compareOp CR u rv)) _ _ _
  refine B6 (K2 (ht.bind (A:=A) rm eK (pM.eN aR gS) lB λ z LS pz mW GI Ce CM Yr uN YJ=>?_))
  intros GI c hZ;delta hZ hc GI
  refine B6 (T9 (wpAny_operate' (uG hW rm CM ((tB.V7 (gS.V7 aR)).V7 (uN.V7 eK)) Ce hc λ Bx Ng Iz Lr=>?_)))
  exact⟨.bool c,mW,GI,.bool _,Ng,(((W6.trans cD).trans gS).trans uN).trans Iz,(((Y7.trans jA).trans yH).trans YJ).trans Lr⟩
theorem YU(hW:W.Ok){l r t:Expr}{op CR:CmpOp}{pos:Pos}{f g k:T PV}(hl:Ev W n ns env l f)(hr:Ev W n ns env r g)(ht:Ev W n ns env t k)(LF:behindInMarks CR t=false):
  FQ W n ns env (.Compare l [op,CR] [r,t] pos) (vO λ ρ σ Q=>f ρ σ λ x B4=>g ρ B4 λ y H6=>∃c,iR H6 op x y=some c∧match c with
  |false=>Q (.bool false) H6
  |true=>k ρ H6 λ z R9=>∃c,iR R9 CR y z=some c∧Q (.bool c) R9).t:=λ A s ρ σ Q rm S F h=>by
 show wpAny _ _ (do testChain pos (<-eval l env) [op,CR] [eval r env,markedBehindIn CR t (eval t env)]) _ _ _
 rw[markedBehindIn_of_false LF]
 refine B6 (hl.bind rm S F h λ v I2 x B4 q Y1 N5 U4 W6 Y7=>?_)
 show wpAny _ _ (do
   let rv <-holding [v] (eval r env)
   standAt pos
   let c <-holding [v,rv] (compareOp op v rv)
   release [v,rv] [c]
   if <-holding [c,rv] (truthy c)then testChain pos rv [CR] [eval t env]else pure false) _ _ _
 refine B6 (K2 (hr.bind (A:=A) rm N5 U4 q λ u fD y H6 lB tB aR pM cD jA=>?_))
 intros lB c hZ;delta hZ hc lB
 refine B6 (T9 (B6 (K2 (uG hW rm aR (Y1.V7 (cD.V7 N5)) tB hc λ aV eK gS yH=>?_))))
 refine B6 (wpAny_release (B6 (K2 (kG ?_))))
 clear hc;cases c with
 |false=>
  intros lB b hZ;delta hZ hb lB
  cases hb
  rw[G0 C5]
  exact D4 ⟨H6,lB,eK,(W6.trans cD).trans gS,(Y7.trans jA).trans yH⟩
 |true=>
  rw[F7 rfl]
  show wpAny _ _ (do
   let rv <-holding [u] (eval t env)
   standAt pos
   let c <-operate [u,rv] (compareOp CR u rv)
   holding [c] (truthy c)) _ _ _
  refine B6 (K2 (ht.bind (A:=A) rm eK (pM.eN aR gS) lB λ z LS pz mW GI Ce CM Yr uN YJ=>?_))
  intros GI c hZ;generalize hZ.1=hc;refine A0 hZ.2 λ b P4=>?_;delta P4 hb GI;try clear hZ
  cases hb
  refine B6 (T9 (B6 (wpAny_operate' (uG hW rm CM ((tB.V7 (gS.V7 aR)).V7 (uN.V7 eK)) Ce hc λ Bx Ng Iz Lr=>?_))))
  refine K2 (kG ?_)
  exact⟨mW,GI,Ng,(((W6.trans cD).trans gS).trans uN).trans Iz,(((Y7.trans jA).trans yH).trans YJ).trans Lr⟩
theorem Ee{t elt iter:Expr}{ifs:List Expr}{scope:Scope}{pos p p':Pos}{k i:Nat}{x:Str}{wP:List Str}{fi:T PV}{fc:T Bool}{fe:T PV}
  (hW:W.Ok)(hE:U5 env)(sc:OK scope env)(hk:(And (k=0) (wP.length=1))∨(And (k=wP.length) (0<k)))
  (nd:distinct (zC scope ns++wP.map some))
  (Bg:∀cl C,Tg (zC scope ns++wP.map some) (compEnvC scope cl C env) true t k ((List.range wP.length).map (ns.length+·)))
  (hi:Ev W n ns env iter fi)
  (hc:∀cl C,U5 (compEnvC scope cl C env)->yK W n (zC scope ns++wP.map some) (compEnvC scope cl C env) ifs fc)
  (he:∀cl C,U5 (compEnvC scope cl C env)->Ev W n (zC scope ns++wP.map some) (compEnvC scope cl C env) elt fe)
  (hs:∀x,foldedSetIterable iter env x=pure x)
  (hn:ns[i]? =some (some x))(hx:env.kindOf x=some .local∨(x≠("__class__":Str)∧env.kindOf x=some .cell)):
  Ex W n ns env (.Assign [.Name x p'] (.ListComp elt [⟨t,iter,ifs,0⟩] scope pos) p) (λ ρ σ Q=>(λ ρ σ Q=>fi ρ σ λ iv B4=>∃xs,mF B4 iv xs∧pE (M9 B4 iv) (λ x σ R=>∃ys,eI k x=some ys∧fc (ρ++ys) σ λ b B9=>match b with
    |true=>fe (ρ++ys) B9 λ y S7=>R (some y) S7
    |false=>R .none B9) xs [] B4 λ ys H6=>∀c,H6 c=none->Q (.ref c) (H6.set c (.list ys)):T PV) ρ σ λ v B4=>Q .next (ρ.set i v) B4):=by
 cases Zx:(env.blockKind==.function&&env.kindOf x==some .local&&p'.line==pos.line&&!(scope.names.any λ(n,k)=>n==x&&(k==.local||k==.cell)))with
 |false=>exact YO hE hn hx (by show(pure (env.blockKind==.function&&env.kindOf x==some .local&&p'.line==pos.line&&!(scope.names.any λ(n,k)=>n==x&&(k==.local||k==.cell))):Sem Bool)=_;rw[Zx]) (RD hW hE sc hk nd Bg hi hc he hs)
 |true=>
  intro A s ρ σ Q rm S F h
  rw[exec_Assign_Name_used _ _ _ _ (by show(pure (env.blockKind==.function&&env.kindOf x==some .local&&p'.line==pos.line&&!(scope.names.any λ(n,k)=>n==x&&(k==.local||k==.cell))):Sem Bool)=_;rw[Zx])]
  refine B6 (T9 (B6 ?_))
  show wpAny _ A (do let _ <-comprehension (.ListComp elt [⟨t,iter,ifs,0⟩] scope pos) scope env _ (newList []) false (eval iter env) (some (assign (.Name x p') env))) _ _ s
  refine B6 (I7 (FI (use:=some (assign (.Name x p') env)) (Q':=λ _ s'=>CO W ns env σ s Q .next s') (Q:=λ v B4=>Q .next (ρ.set i v) B4) hW hE sc rm S F hk nd Bg hi hc he hs h λ D C B9 s' y q F'=>?_) (λ _ s' hq=>D4 (D4 hq)) λ _ _ e=>e)
  show wpAny _ A (assign (.Name x p') env (.ref D)) _ _ _
  refine kA (L:=false) hE y.sr F' hn (hx.imp id λ k=>⟨rfl,k⟩) (.ref D) λ h2 tk S2 F2 st=>?_
  refine A0 (y.ns) λ m hZ=>?_;intros hZ o Q0;intros Q0 es P4;intros P4 ep fU;generalize fU.1=ho;generalize fU.2=nS;delta nS hd hm;try clear fU
  have Kg:¬rL env C:=iM F y.cs
  have Lg:h2.get? C=some o:=(st.bO C o ho y.cn λ w=>Kg w.own).1
  refine⟨m,⟨o,es,ep,Lg,hd,hm⟩,λ h3 sb=>?_⟩
  have hZ:=S2.fK y.cn y.cb Lg (by simp[cV,hd]) (SameBut.fK sb);delta hZ S3 im
  refine⟨.next,_,B9,q,.next,S3,F2.fK Kg (SameBut.fK sb) im,⟨λ b o' e n w=>?_,y.eN.IE⟩,y.sm.trans ⟨h3,_,rfl⟩⟩
  have p1:=y.eN.bO b o' e n
  have p2:=st.bO b o' p1.1 p1.2 λ z=>w z.own
  exact⟨(sb.2 b (by clear F F' F2 S S2 S3 h hE hW hc hd he hi hk hm hn ho Lg hs Bg hx ifs im iter k m n Kg nd o p p1 q rm sb sc st t tk wP w ρ;rintro rfl;rw[y.cs]at e;cases e)).trans p2.1,p2.2⟩
end
theorem dt{c:Prop}[Decidable c]{f:c->Bool}(h:(if h:c then f h else false)=true):c:=Decidable.byContradiction λ q=>C5 ((dif_neg q).symm.trans h)
theorem an{a b:Bool}(h:(a&&b)=true):a=true∧b=true:=⟨(F0.mp h).1,(F0.mp h).2⟩
def E.bool(e:Expr)(g:BoolOp->(List Expr)->Pos->Bool):Bool:=if h:e.ctorIdx=0 then Expr.BoolOp.elim (motive_1:=λ _=>Bool) e h λ o l p=>g o l p else false
theorem E.pX{P:Expr->Prop}{g:BoolOp->(List Expr)->Pos->Bool}(e:Expr)(h:E.bool e g=true)(q:∀o l p,g o l p=true->P (Expr.BoolOp o l p)):P e:=Expr.BoolOp.elim (motive_1:=λ e=>E.bool e g=true->P e) e (dt h) (λ o l p h=>q o l p h) h
def E.bin(e:Expr)(g:Expr->Operator->Expr->Pos->Bool):Bool:=if h:e.ctorIdx=2 then Expr.BinOp.elim (motive_1:=λ _=>Bool) e h λ l o r p=>g l o r p else false
theorem E.OE{P:Expr->Prop}{g:Expr->Operator->Expr->Pos->Bool}(e:Expr)(h:E.bin e g=true)(q:∀l o r p,g l o r p=true->P (Expr.BinOp l o r p)):P e:=Expr.BinOp.elim (motive_1:=λ e=>E.bin e g=true->P e) e (dt h) (λ l o r p h=>q l o r p h) h
def E.Tc(e:Expr)(g:UnaryOp->Expr->Pos->Bool):Bool:=if h:e.ctorIdx=3 then Expr.UnaryOp.elim (motive_1:=λ _=>Bool) e h λ o x p=>g o x p else false
theorem E.VL{P:Expr->Prop}{g:UnaryOp->Expr->Pos->Bool}(e:Expr)(h:E.Tc e g=true)(q:∀o x p,g o x p=true->P (Expr.UnaryOp o x p)):P e:=Expr.UnaryOp.elim (motive_1:=λ e=>E.Tc e g=true->P e) e (dt h) (λ o x p h=>q o x p h) h
def E.ite(e:Expr)(g:Expr->Expr->Expr->Pos->Bool):Bool:=if h:e.ctorIdx=5 then Expr.IfExp.elim (motive_1:=λ _=>Bool) e h λ c a b p=>g c a b p else false
theorem E.NG{P:Expr->Prop}{g:Expr->Expr->Expr->Pos->Bool}(e:Expr)(h:E.ite e g=true)(q:∀c a b p,g c a b p=true->P (Expr.IfExp c a b p)):P e:=Expr.IfExp.elim (motive_1:=λ e=>E.ite e g=true->P e) e (dt h) (λ c a b p h=>q c a b p h) h
def E.dict(e:Expr)(g:(List (Option Expr))->(List Expr)->Pos->Bool):Bool:=if h:e.ctorIdx=6 then Expr.Dict.elim (motive_1:=λ _=>Bool) e h λ a b p=>g a b p else false
theorem E.Eu{P:Expr->Prop}{g:(List (Option Expr))->(List Expr)->Pos->Bool}(e:Expr)(h:E.dict e g=true)(q:∀a b p,g a b p=true->P (Expr.Dict a b p)):P e:=Expr.Dict.elim (motive_1:=λ e=>E.dict e g=true->P e) e (dt h) (λ a b p h=>q a b p h) h
def E.comp(e:Expr)(g:Expr->(List Comprehension)->Scope->Pos->Bool):Bool:=if h:e.ctorIdx=8 then Expr.ListComp.elim (motive_1:=λ _=>Bool) e h λ x gs s p=>g x gs s p else false
theorem E.RP{P:Expr->Prop}{g:Expr->(List Comprehension)->Scope->Pos->Bool}(e:Expr)(h:E.comp e g=true)(q:∀x gs s p,g x gs s p=true->P (Expr.ListComp x gs s p)):P e:=Expr.ListComp.elim (motive_1:=λ e=>E.comp e g=true->P e) e (dt h) (λ x gs s p h=>q x gs s p h) h
def E.cmp(e:Expr)(g:Expr->(List CmpOp)->(List Expr)->Pos->Bool):Bool:=if h:e.ctorIdx=15 then Expr.Compare.elim (motive_1:=λ _=>Bool) e h λ l o r p=>g l o r p else false
theorem E.vZ{P:Expr->Prop}{g:Expr->(List CmpOp)->(List Expr)->Pos->Bool}(e:Expr)(h:E.cmp e g=true)(q:∀l o r p,g l o r p=true->P (Expr.Compare l o r p)):P e:=Expr.Compare.elim (motive_1:=λ e=>E.cmp e g=true->P e) e (dt h) (λ l o r p h=>q l o r p h) h
def E.call(e:Expr)(g:Expr->(List Expr)->(List Keyword)->Pos->Bool):Bool:=if h:e.ctorIdx=16 then Expr.Call.elim (motive_1:=λ _=>Bool) e h λ f a k p=>g f a k p else false
theorem E.mM{P:Expr->Prop}{g:Expr->(List Expr)->(List Keyword)->Pos->Bool}(e:Expr)(h:E.call e g=true)(q:∀f a k p,g f a k p=true->P (Expr.Call f a k p)):P e:=Expr.Call.elim (motive_1:=λ e=>E.call e g=true->P e) e (dt h) (λ f a k p h=>q f a k p h) h
def E.const(e:Expr)(g:Const->Nat->Pos->Bool):Bool:=if h:e.ctorIdx=19 then Expr.Constant.elim (motive_1:=λ _=>Bool) e h λ c k p=>g c k p else false
theorem E.uF{P:Expr->Prop}{g:Const->Nat->Pos->Bool}(e:Expr)(h:E.const e g=true)(q:∀c k p,g c k p=true->P (Expr.Constant c k p)):P e:=Expr.Constant.elim (motive_1:=λ e=>E.const e g=true->P e) e (dt h) (λ c k p h=>q c k p h) h
def E.attr(e:Expr)(g:Expr->Str->Pos->Bool):Bool:=if h:e.ctorIdx=20 then Expr.Attribute.elim (motive_1:=λ _=>Bool) e h λ o a p=>g o a p else false
theorem E.zF{P:Expr->Prop}{g:Expr->Str->Pos->Bool}(e:Expr)(h:E.attr e g=true)(q:∀o a p,g o a p=true->P (Expr.Attribute o a p)):P e:=Expr.Attribute.elim (motive_1:=λ e=>E.attr e g=true->P e) e (dt h) (λ o a p h=>q o a p h) h
def E.sub(e:Expr)(g:Expr->Expr->Pos->Bool):Bool:=if h:e.ctorIdx=21 then Expr.Subscript.elim (motive_1:=λ _=>Bool) e h λ o i p=>g o i p else false
theorem E.LW{P:Expr->Prop}{g:Expr->Expr->Pos->Bool}(e:Expr)(h:E.sub e g=true)(q:∀o i p,g o i p=true->P (Expr.Subscript o i p)):P e:=Expr.Subscript.elim (motive_1:=λ e=>E.sub e g=true->P e) e (dt h) (λ o i p h=>q o i p h) h
def E.name(e:Expr)(g:Str->Pos->Bool):Bool:=if h:e.ctorIdx=23 then Expr.Name.elim (motive_1:=λ _=>Bool) e h λ x p=>g x p else false
theorem E.cJ{P:Expr->Prop}{g:Str->Pos->Bool}(e:Expr)(h:E.name e g=true)(q:∀x p,g x p=true->P (Expr.Name x p)):P e:=Expr.Name.elim (motive_1:=λ e=>E.name e g=true->P e) e (dt h) (λ x p h=>q x p h) h
def E.list(e:Expr)(g:(List Expr)->Pos->Bool):Bool:=if h:e.ctorIdx=24 then Expr.List.elim (motive_1:=λ _=>Bool) e h λ l p=>g l p else false
theorem E.Ct{P:Expr->Prop}{g:(List Expr)->Pos->Bool}(e:Expr)(h:E.list e g=true)(q:∀l p,g l p=true->P (Expr.List l p)):P e:=Expr.List.elim (motive_1:=λ e=>E.list e g=true->P e) e (dt h) (λ l p h=>q l p h) h
def E.tup(e:Expr)(g:(List Expr)->Nat->Pos->Bool):Bool:=if h:e.ctorIdx=25 then Expr.Tuple.elim (motive_1:=λ _=>Bool) e h λ l k p=>g l k p else false
theorem E.zI{P:Expr->Prop}{g:(List Expr)->Nat->Pos->Bool}(e:Expr)(h:E.tup e g=true)(q:∀l k p,g l k p=true->P (Expr.Tuple l k p)):P e:=Expr.Tuple.elim (motive_1:=λ e=>E.tup e g=true->P e) e (dt h) (λ l k p h=>q l k p h) h
def E.wQ(e:Expr)(g:(Option Expr)->(Option Expr)->(Option Expr)->Pos->Bool):Bool:=if h:e.ctorIdx=26 then Expr.Slice.elim (motive_1:=λ _=>Bool) e h λ a b c p=>g a b c p else false
theorem E.Jl{P:Expr->Prop}{g:(Option Expr)->(Option Expr)->(Option Expr)->Pos->Bool}(e:Expr)(h:E.wQ e g=true)(q:∀a b c p,g a b c p=true->P (Expr.Slice a b c p)):P e:=Expr.Slice.elim (motive_1:=λ e=>E.wQ e g=true->P e) e (dt h) (λ a b c p h=>q a b c p h) h
def S.ret(e:Stmt)(g:(Option Expr)->Pos->Bool):Bool:=if h:e.ctorIdx=3 then Stmt.Return.elim (motive_2:=λ _=>Bool) e h λ v p=>g v p else false
theorem S.WI{P:Stmt->Prop}{g:(Option Expr)->Pos->Bool}(e:Stmt)(h:S.ret e g=true)(q:∀v p,g v p=true->P (Stmt.Return v p)):P e:=Stmt.Return.elim (motive_2:=λ e=>S.ret e g=true->P e) e (dt h) (λ v p h=>q v p h) h
def S.asg(e:Stmt)(g:(List Expr)->Expr->Pos->Bool):Bool:=if h:e.ctorIdx=5 then Stmt.Assign.elim (motive_2:=λ _=>Bool) e h λ t v p=>g t v p else false
theorem S.HU{P:Stmt->Prop}{g:(List Expr)->Expr->Pos->Bool}(e:Stmt)(h:S.asg e g=true)(q:∀t v p,g t v p=true->P (Stmt.Assign t v p)):P e:=Stmt.Assign.elim (motive_2:=λ e=>S.asg e g=true->P e) e (dt h) (λ t v p h=>q t v p h) h
def S.YD(e:Stmt)(g:Expr->Expr->(List Stmt)->(List Stmt)->Pos->Bool):Bool:=if h:e.ctorIdx=9 then Stmt.For.elim (motive_2:=λ _=>Bool) e h λ t i b o p=>g t i b o p else false
theorem S.HH{P:Stmt->Prop}{g:Expr->Expr->(List Stmt)->(List Stmt)->Pos->Bool}(e:Stmt)(h:S.YD e g=true)(q:∀t i b o p,g t i b o p=true->P (Stmt.For t i b o p)):P e:=Stmt.For.elim (motive_2:=λ e=>S.YD e g=true->P e) e (dt h) (λ t i b o p h=>q t i b o p h) h
def S.IB(e:Stmt)(g:Expr->(List Stmt)->(List Stmt)->Pos->Bool):Bool:=if h:e.ctorIdx=11 then Stmt.While.elim (motive_2:=λ _=>Bool) e h λ c b o p=>g c b o p else false
theorem S.Ja{P:Stmt->Prop}{g:Expr->(List Stmt)->(List Stmt)->Pos->Bool}(e:Stmt)(h:S.IB e g=true)(q:∀c b o p,g c b o p=true->P (Stmt.While c b o p)):P e:=Stmt.While.elim (motive_2:=λ e=>S.IB e g=true->P e) e (dt h) (λ c b o p h=>q c b o p h) h
def S.ite(e:Stmt)(g:Expr->(List Stmt)->(List Stmt)->Pos->Bool):Bool:=if h:e.ctorIdx=12 then Stmt.If.elim (motive_2:=λ _=>Bool) e h λ c a b p=>g c a b p else false
theorem S.NG{P:Stmt->Prop}{g:Expr->(List Stmt)->(List Stmt)->Pos->Bool}(e:Stmt)(h:S.ite e g=true)(q:∀c a b p,g c a b p=true->P (Stmt.If c a b p)):P e:=Stmt.If.elim (motive_2:=λ e=>S.ite e g=true->P e) e (dt h) (λ c a b p h=>q c a b p h) h
def S.expr(e:Stmt)(g:Expr->Pos->Bool):Bool:=if h:e.ctorIdx=24 then Stmt.Expr.elim (motive_2:=λ _=>Bool) e h λ e p=>g e p else false
theorem S.RB{P:Stmt->Prop}{g:Expr->Pos->Bool}(e:Stmt)(h:S.expr e g=true)(q:∀e p,g e p=true->P (Stmt.Expr e p)):P e:=Stmt.Expr.elim (motive_2:=λ e=>S.expr e g=true->P e) e (dt h) (λ e p h=>q e p h) h
def S.pass(e:Stmt)(g:Pos->Bool):Bool:=if h:e.ctorIdx=25 then Stmt.Pass.elim (motive_2:=λ _=>Bool) e h λ p=>g p else false
theorem S.Ci{P:Stmt->Prop}{g:Pos->Bool}(e:Stmt)(h:S.pass e g=true)(q:∀p,g p=true->P (Stmt.Pass p)):P e:=Stmt.Pass.elim (motive_2:=λ e=>S.pass e g=true->P e) e (dt h) (λ p h=>q p h) h
def S.cont(e:Stmt)(g:Pos->Bool):Bool:=if h:e.ctorIdx=27 then Stmt.Continue.elim (motive_2:=λ _=>Bool) e h λ p=>g p else false
theorem S.Fb{P:Stmt->Prop}{g:Pos->Bool}(e:Stmt)(h:S.cont e g=true)(q:∀p,g p=true->P (Stmt.Continue p)):P e:=Stmt.Continue.elim (motive_2:=λ e=>S.cont e g=true->P e) e (dt h) (λ p h=>q p h) h
def C.none(e:Const):Bool:=e.ctorIdx==0
theorem C.yT{P:Const->Prop}(e:Const)(h:C.none e=true)(q:P Const.none):P e:=Const.none.elim (motive:=λ e=>P e) e (eq_of_beq h) q
def C.bool(e:Const)(g:Bool->Bool):Bool:=if h:e.ctorIdx=1 then Const.bool.elim (motive:=λ _=>Bool) e h λ b=>g b else false
theorem C.pX{P:Const->Prop}{g:Bool->Bool}(e:Const)(h:C.bool e g=true)(q:∀b,g b=true->P (Const.bool b)):P e:=Const.bool.elim (motive:=λ e=>C.bool e g=true->P e) e (dt h) (λ b h=>q b h) h
def C.int(e:Const)(g:Int->Bool):Bool:=if h:e.ctorIdx=2 then Const.int.elim (motive:=λ _=>Bool) e h λ i=>g i else false
theorem C.pA{P:Const->Prop}{g:Int->Bool}(e:Const)(h:C.int e g=true)(q:∀i,g i=true->P (Const.int i)):P e:=Const.int.elim (motive:=λ e=>C.int e g=true->P e) e (dt h) (λ i h=>q i h) h
def C.str(e:Const)(g:Str->Bool):Bool:=if h:e.ctorIdx=5 then Const.str.elim (motive:=λ _=>Bool) e h λ s=>g s else false
theorem C.zO{P:Const->Prop}{g:Str->Bool}(e:Const)(h:C.str e g=true)(q:∀s,g s=true->P (Const.str s)):P e:=Const.str.elim (motive:=λ e=>C.str e g=true->P e) e (dt h) (λ s h=>q s h) h
def V.none(e:Value):Bool:=e.ctorIdx==0
theorem V.yT{P:Value->Prop}(e:Value)(h:V.none e=true)(q:P Value.none):P e:=Value.none.elim (motive:=λ e=>P e) e (eq_of_beq h) q
def V.bool(e:Value)(g:Bool->Bool):Bool:=if h:e.ctorIdx=3 then Value.bool.elim (motive:=λ _=>Bool) e h λ b=>g b else false
theorem V.pX{P:Value->Prop}{g:Bool->Bool}(e:Value)(h:V.bool e g=true)(q:∀b,g b=true->P (Value.bool b)):P e:=Value.bool.elim (motive:=λ e=>V.bool e g=true->P e) e (dt h) (λ b h=>q b h) h
def V.int(e:Value)(g:Int->Tok->Bool):Bool:=if h:e.ctorIdx=4 then Value.int.elim (motive:=λ _=>Bool) e h λ i t=>g i t else false
theorem V.pA{P:Value->Prop}{g:Int->Tok->Bool}(e:Value)(h:V.int e g=true)(q:∀i t,g i t=true->P (Value.int i t)):P e:=Value.int.elim (motive:=λ e=>V.int e g=true->P e) e (dt h) (λ i t h=>q i t h) h
def V.str(e:Value)(g:Str->Tok->Bool):Bool:=if h:e.ctorIdx=6 then Value.str.elim (motive:=λ _=>Bool) e h λ s t=>g s t else false
theorem V.zO{P:Value->Prop}{g:Str->Tok->Bool}(e:Value)(h:V.str e g=true)(q:∀s t,g s t=true->P (Value.str s t)):P e:=Value.str.elim (motive:=λ e=>V.str e g=true->P e) e (dt h) (λ s t h=>q s t h) h
def V.typ(e:Value)(g:String->Bool):Bool:=if h:e.ctorIdx=8 then Value.type.elim (motive:=λ _=>Bool) e h λ s=>g s else false
theorem V.FV{P:Value->Prop}{g:String->Bool}(e:Value)(h:V.typ e g=true)(q:∀s,g s=true->P (Value.type s)):P e:=Value.type.elim (motive:=λ e=>V.typ e g=true->P e) e (dt h) (λ s h=>q s h) h
def V.blt(e:Value)(g:String->Bool):Bool:=if h:e.ctorIdx=9 then Value.builtin.elim (motive:=λ _=>Bool) e h λ s=>g s else false
theorem V.CC{P:Value->Prop}{g:String->Bool}(e:Value)(h:V.blt e g=true)(q:∀s,g s=true->P (Value.builtin s)):P e:=Value.builtin.elim (motive:=λ e=>V.blt e g=true->P e) e (dt h) (λ s h=>q s h) h
def V.ref(e:Value)(g:Addr->Bool):Bool:=if h:e.ctorIdx=10 then Value.ref.elim (motive:=λ _=>Bool) e h λ a=>g a else false
theorem V.vB{P:Value->Prop}{g:Addr->Bool}(e:Value)(h:V.ref e g=true)(q:∀a,g a=true->P (Value.ref a)):P e:=Value.ref.elim (motive:=λ e=>V.ref e g=true->P e) e (dt h) (λ a h=>q a h) h
section
variable{α:Type}{P:List α->Prop}
def LN(l:List α):Bool:=l.isEmpty
def LC(l:List α)(f:α->List α->Bool):Bool:=List.rec (motive:=λ _=>Bool) false (λ x r _=>f x r) l
theorem iT{f:α->List α->Bool}(l:List α)(h:LC l f=true)(q:∀x r,f x r=true->P (x::r)):P l:=List.rec (motive:=λ l=>LC l f=true->P l) (λ h=>(C5 h).elim) (λ x r _ h=>q x r h) l h
theorem cR(l:List α)(h:LN l=true)(q:P []):P l:=List.rec (motive:=λ l=>LN l=true->P l) (λ _=>q) (λ x r _ h=>(C5 h).elim) l h
def L1(l:List α)(f:α->Bool):Bool:=LC l λ x r=>LN r&&f x
theorem lN{f:α->Bool}(l:List α)(h:L1 l f=true)(q:∀x,f x=true->P [x]):P l:=iT l h λ x r h=>cR (P:=λ r=>P (x::r)) r (an h).1 (q x (an h).2)
def L2(l:List α)(f:α->α->Bool):Bool:=LC l λ x r=>L1 r (f x)
theorem SK{f:α->α->Bool}(l:List α)(h:L2 l f=true)(q:∀x y,f x y=true->P [x,y]):P l:=iT l h λ x r h=>lN (P:=λ r=>P (x::r)) r h (q x)
end
section
variable{α:Type}{P:Option α->Prop}
def ON(o:Option α):Bool:=Option.rec (motive:=λ _=>Bool) true (λ _=>false) o
def OS(o:Option α)(f:α->Bool):Bool:=Option.rec (motive:=λ _=>Bool) false f o
theorem Aw(o:Option α)(h:ON o=true)(q:P none):P o:=Option.rec (motive:=λ o=>ON o=true->P o) (λ _=>q) (λ _ h=>(C5 h).elim) o h
theorem iS{f:α->Bool}(o:Option α)(h:OS o f=true)(q:∀x,f x=true->P (some x)):P o:=Option.rec (motive:=λ o=>OS o f=true->P o) (λ h=>(C5 h).elim) (λ x h=>q x h) o h
end
def gV:List Str->List Value->Bool
 |[],vs=>LN vs
 |a::r,vs=>LC vs λ v q=>V.str v (λ b _=>a==b&&decide (b.length<=1000))&&gV r q
theorem LT{n:Nat}(h:decide (n<=1000)=true):n<=sizeLine:=by rw[K0];exact A9 (D0 h) (by decide)
theorem BU{h:Heap}:∀{ds:List Str} {vs:List Value},gV ds vs=true->bP h (ds.map .str) vs
 |[],vs,e=>cR (P:=λ vs=>bP h [] vs) vs e .nil
 |a::r,vs,e=>iT (P:=λ vs=>bP h (.str a::r.map .str) vs) vs e λ v q e=>.cons (V.zO (P:=λ v=>VR h (.str a) v) v (an e).1 λ b t e=>eq_of_beq (an e).1▸.str _ _ (LT (eq_of_beq (an e).1▸(an e).2))) (BU (an e).2)
def EA(f v:Value):Bool:=V.ref f (λ a=>V.ref v λ b=>Nat.beq a b)||(V.blt f (λ s=>V.blt v λ t=>s==t)||V.typ f λ s=>V.typ v λ t=>s==t)
theorem IR{P:Value->Value->Prop}{f v:Value}(h:EA f v=true)(k1:∀a,P (.ref a) (.ref a))(k2:∀s,P (.builtin s) (.builtin s))(k3:∀s,P (.type s) (.type s)):P f v:=
 (N0.mp h).elim (λ h=>V.vB (P:=λ f=>P f v) f h λ a h=>V.vB (P:=P _) v h λ b h=>X9 h▸k1 a) λ h=>(N0.mp h).elim
  (λ h=>V.CC (P:=λ f=>P f v) f h λ a h=>V.CC (P:=P _) v h λ b h=>eq_of_beq h▸k2 a) (λ h=>V.FV (P:=λ f=>P f v) f h λ a h=>V.FV (P:=P _) v h λ b h=>eq_of_beq h▸k3 a)
theorem zR{f g:Value}(h:EA f g=true):f=g:=IR (P:=λ f g=>f=g) h (λ _=>rfl) (λ _=>rfl) λ _=>rfl
abbrev GE:=Str×Value×List String
structure wL(W:Wd)(gt:List GE):Prop where
 is:∀(k:Nat) x v l,gt[k]? =some (x,v,l)->pL W x v
 keep:∀(k:Nat) x a,gt[k]? =some (x,.ref a,[])->keepIn W.K (.ref a)=true
 tup:∀(k:Nat) x v l,gt[k]? =some (x,v,l)->l≠[]->∃t vs d m sl,v=.ref t∧W.K.lookup t=some ⟨.type "tuple",d,.seq (List.toArray vs) m,sl⟩∧gV (l.map Str.ofString) vs=true
theorem wL.Kp{W:Wd}{gt:List GE}(G:wL W gt){k:Nat}{x:Str}{f v:Value}(e:EA f v=true):gt[k]? =some (x,v,[])->mR W f:=
 IR (P:=λ f v=>gt[k]? =some (x,v,[])->mR W f) e (λ a h=>.ref (G.keep k x a h)) (λ _ _=>.builtin _) λ _ _=>.type _
def GA(gt:List GE)(k:Nat)(f:Str->Value->List String->Bool):Bool:=OS gt[k]? λ g=>f g.1 g.2.1 g.2.2
theorem SL{P:Prop}{gt:List GE}{k:Nat}{f:Str->Value->List String->Bool}(h:GA gt k f=true)(q:∀x v l,gt[k]? =some (x,v,l)->f x v l=true->P):P:=
 iS (P:=λ o=>gt[k]? =o->P) _ h (λ g h e=>q g.1 g.2.1 g.2.2 e h) rfl
def namesOf:List Expr->(List Str->Bool)->Bool
 |[],f=>f []
 |e::r,f=>E.name e λ x _=>namesOf r λ l=>f (x::l)
inductive Bp:List Expr->List Str->Prop
 |nil:Bp [] []
 |cons {x:Str} {p:Pos} {r:List Expr} {l:List Str}:Bp r l->Bp (.Name x p::r) (x::l)
theorem mA{P:Prop}:∀{es:List Expr} {f:List Str->Bool},namesOf es f=true->(∀l,Bp es l->f l=true->P)->P
 |[],_,h,q=>q [] .nil h
 |e::r,f,h,q=>E.cJ (P:=λ e=>(∀l,Bp (e::r) l->f l=true->P)->P) e h (λ x p h q=>mA h λ l m h=>q (x::l) (.cons m) h) q
theorem Bp.len{es:List Expr}{l:List Str}(h:Bp es l):l.length=es.length:=by
 induction h with
 |nil=>rfl
 |cons _ ih=>exact C7 (·+1) ih
def PC(k:Nat)(t:Expr)(f:List Str->Bool):Bool:=match k with
 |0=>E.name t λ x _=>f [x]
 |k+1=>E.tup t λ es _ _=>Nat.beq es.length (k+1)&&namesOf es f
def WB(nm:List (Str×NameKind))(sc:Scope):Bool:=
 sc.kind==.function&&(!sc.isGenerator&&(!sc.isCoroutine&&(sc.names.all (λ x=>x.2 !=.cell&&sc.names.lookup x.1==some x.2)&&
  sc.names.all (λ x=>x.2 !=.free||(x.1 !=("__class__":Str)&&(nm.lookup x.1==some .cell||nm.lookup x.1==some .free))))))
def ME(nm l:List (Str×NameKind)):List (Str×NameKind):=l.map λ(n,k)=>if(k==.free&&nm.lookup n==some .cell)=true then(n,.cell)else(n,k)
def Mj:List (Option Str)->Bool
 |[]=>true
 |o::r=>(ON o||!r.contains o)&&Mj r
theorem HK:∀{l:List (Option Str)},Mj l=true->distinct l
 |[],_=>λ i j x h _=>nomatch h
 |o::r,h=>λ i j x h1 h2=>by
  have ne:∀k:Nat,o=some x->r[k]? ≠some (some x):=λ k q e=>by
   clear h2 h1;subst q
   have c:r.contains (some x)=true:=jF.mpr (B5 e)
   have:=(an h).1
   rw[c]at this;cases this
  match i,j with
  |0,0=>rfl
  |0,j+1=>exact absurd h2 (ne j (G8 h1))
  |i+1,0=>exact absurd h1 (ne i (G8 h2))
  |i+1,j+1=>exact C7 (·+1) (HK (an h).2 i j x h1 h2)
def GT(e:Expr):Bool:=!(e.ctorIdx==7)
theorem pT{e:Expr}(h:GT e=true)(env:Env)(x:Value):foldedSetIterable e env x=pure x:=by
 cases e<;>first|rfl|cases h
def yS(e:Expr):Bool:=!(e.ctorIdx==8)&&(!(e.ctorIdx==9)&&!(e.ctorIdx==10))
def tV(ns:List (Option Str))(i:Nat)(x:Str):Bool:=ns[i]? ==some (some x)
theorem fT{ns:List (Option Str)}{i:Nat}{x:Str}(h:tV ns i x=true):ns[i]? =some (some x):=eq_of_beq h
def yY(e:PE):Bool:=if h:e.ctorIdx=1 then PE.bool.elim (motive_1:=λ _=>Bool) e h id else false
theorem NI{P:PE->Prop}(e:PE)(h:yY e=true)(q:P (.bool true)):P e:=PE.bool.elim (motive_1:=λ e=>yY e=true->P e) e (dt h) (λ b h=>(show b=true from h)▸q) h
def tZ(e:PE):Bool:=e.ctorIdx==10
theorem JS{P:PE->Prop}(e:PE)(h:tZ e=true)(q:P .absent):P e:=PE.absent.elim (motive_1:=λ e=>P e) e (eq_of_beq h) q
def Vx(x:Str):Bool:=!(x==("__debug__":Str))
def Xr(nm:List (Str×NameKind))(x:Str):Bool:=nm.lookup x==some .globalImplicit&&Vx x
def AY(o:Expr):Bool:=!(E.call o λ f xs ks _=>LN xs&&(LN ks&&E.name f λ x _=>x=="super"))
theorem xF{o:Expr}(h:AY o=true):NS o:=by
 intro attr env whole
 cases o<;>first|rfl|skip
 cases func<;>first|rfl|skip
 cases args<;>first|rfl|skip
 cases keywords<;>first|rfl|skip
 have h:(id !="super")=true:=h
 delta attributeBase
 dsimp only
 rw[h];simp
set_option smartUnfolding false in
mutual
noncomputable def mE(gt:List GE):PE->List (Option Str)->List (Str×NameKind)->Expr->Bool
 |.none,_,_,e=>E.const e λ c _ _=>C.none c
 |.bool b,_,_,e=>E.const e λ c _ _=>C.bool c λ x=>b==x
 |.int i,_,_,e=>E.const e λ c _ _=>C.int c λ x=>i==x
 |.str s,_,_,e=>E.const e λ c _ _=>C.str c λ x=>Str.ofString s==x&&decide (x.length<=1000)
 |.loc i,ns,_,e=>E.name e λ x _=>tV ns i x&&(Vx x&&!(x==("__classdict__":Str)))
 |.gi k i,_,nm,e=>E.name e λ x _=>Xr nm x&&GA gt k λ y v _=>y==x&&V.int v λ j _=>i==j
 |.gs k l,_,nm,e=>E.name e λ x _=>Xr nm x&&(!l.isEmpty&&(decide (l.length<=1000)&&GA gt k λ y _ l'=>y==x&&l'==l))
 |.attr o f,ns,nm,e=>E.attr e λ x a _=>a==Str.ofString f&&(AY x&&mE gt o ns nm x)
 |.sub o i,ns,nm,e=>E.sub e λ x y _=>mE gt o ns nm x&&mE gt i ns nm y
 |.wQ o lo hi,ns,nm,e=>E.sub e λ x y _=>E.wQ y λ l u s _=>ON s&&(mE gt o ns nm x&&(Option.rec (motive:=λ _=>Bool) (tZ lo) (λ e=>mE gt lo ns nm e) l&&Option.rec (motive:=λ _=>Bool) (tZ hi) (λ e=>mE gt hi ns nm e) u))
 |.absent,_,_,_=>false
 |.bin op a b,ns,nm,e=>E.bin e λ l o r _=>o==op&&(mE gt a ns nm l&&mE gt b ns nm r)
 |.neg a,ns,nm,e=>E.Tc e λ o x _=>o==.USub&&mE gt a ns nm x
 |.cmp op a b,ns,nm,e=>E.cmp e λ l os rs _=>L1 os λ o=>L1 rs λ r=>o==op&&(!behindInMarks o r&&(mE gt a ns nm l&&mE gt b ns nm r))
 |.KF Py Px a b c,ns,nm,e=>E.cmp e λ l os rs _=>L2 os λ o1 o2=>L2 rs λ r t=>o1==Py&&(o2==Px&&(!behindInMarks o2 t&&(mE gt a ns nm l&&(mE gt b ns nm r&&mE gt c ns nm t))))
 |.not a,ns,nm,e=>E.Tc e λ o x _=>o==.Not&&mE gt a ns nm x
 |.and a b,ns,nm,e=>E.bool e λ o l p=>o==.And&&LC l λ x r=>mE gt a ns nm x&&LC r λ y q=>if q.isEmpty then mE gt b ns nm y else mE gt b ns nm (.BoolOp .And r p)
 |.or a b,ns,nm,e=>E.bool e λ o l p=>o==.Or&&LC l λ x r=>mE gt a ns nm x&&LC r λ y q=>if q.isEmpty then mE gt b ns nm y else mE gt b ns nm (.BoolOp .Or r p)
 |.ite c a b,ns,nm,e=>E.ite e λ x y z _=>mE gt c ns nm x&&(mE gt a ns nm y&&mE gt b ns nm z)
 |.tup es,ns,nm,e=>E.tup e λ xs _ _=>decide (xs.length<=1000)&&Hn gt es ns nm xs
 |.list es,ns,nm,e=>E.list e λ xs _=>decide (xs.length<=1000)&&Hn gt es ns nm xs
 |.dP,_,_,e=>E.dict e λ a b _=>LN a&&LN b
 |.call k f args,ns,nm,e=>E.call e λ x xs ks _=>LN ks&&E.name x λ x _=>Xr nm x&&(Hn gt args ns nm xs&&GA gt k λ y v l=>y==x&&(LN l&&EA f v))
 |.H2 o f args,ns,nm,e=>E.call e λ x xs ks pos=>LN ks&&E.attr x λ x a ap=>a==Str.ofString f&&(AY x&&(ap.endLine==pos.line&&(decide (xs.length<20)&&(mE gt o ns nm x&&Hn gt args ns nm xs))))
 |.sup _ _,_,_,_=>false
 |.comp elt tg it cond,ns,nm,e=>E.comp e λ x gs sc _=>L1 gs λ g=>g.is_async==0&&(WB nm sc&&PC tg g.target λ tn=>tn.all (λ y=>sc.names.lookup y==some .local)&&(Mj (zC sc ns++tn.map some)&&(GT g.iter&&(mE gt it ns nm g.iter&&
   (mE gt elt (zC sc ns++tn.map some) (ME nm sc.names) x&&(LN g.ifs&&yY cond||L1 g.ifs λ c=>mE gt cond (zC sc ns++tn.map some) (ME nm sc.names) c))))))
 |.any,_,_,_=>false
noncomputable def Hn(gt:List GE):uM->List (Option Str)->List (Str×NameKind)->List Expr->Bool
 |.nil,_,_,es=>LN es
 |.cons p r,ns,nm,es=>LC es λ e q=>rH e&&(mE gt p ns nm e&&Hn gt r ns nm q)
end
structure cN(W:Wd)(n:Nat)(ns:List (Option Str))(env:Env)(e:Expr)(w:WP):Prop where
 v:Ev W n ns env e w.v
 t:FQ W n ns env e w.t
theorem cN.of{W:Wd}{n:Nat}{ns:List (Option Str)}{env:Env}{e:Expr}{f:T PV}(he:Ev W n ns env e f)(hw:∀whole,isTrue e env whole=(do let v <-whole;standAt e.pos;holding [v] (truthy v))):cN W n ns env e (vO f):=⟨he,Mh he hw⟩
theorem Bp.Za{ns:List (Option Str)}{env:Env}{L:Bool}{es:List Expr}{tn:List Str}(h:Bp es tn):∀{is:List Nat},is.length=tn.length->(∀(j:Nat) (i:Nat) (x:Str),is[j]? =some i->tn[j]? =some x->ns[i]? =some (some x))->
  (∀x∈tn,env.kindOf x=some .local∨(L=false∧(x≠("__class__":Str)∧env.kindOf x=some .cell)))->Ar ns env L es is:=by
 induction h with
 |nil=>exact λ{is} hl _ _=>kL hl▸.nil
 |cons _ ih=>exact λ{is}=>match is with
  |[]=>λ hl=>nomatch hl
  |i::is=>λ hl hn hk=>.cons (hn 0 i _ rfl rfl) (hk _ (.head _)) (ih (Nat.succ.inj hl) (λ j i x a b=>hn (j+1) i x a b) λ x hx=>hk x (.tail _ hx))
structure Ur(t:Expr)(k:Nat)(tn:List Str):Prop where
 sz:(And (k=0) (tn.length=1))∨(And (k=tn.length) (0<k))
 tg:∀{ns:List (Option Str)} {env:Env} {L:Bool} {is:List Nat},is.length=tn.length->(∀(j:Nat) (i:Nat) (x:Str),is[j]? =some i->tn[j]? =some x->ns[i]? =some (some x))->
  (∀x∈tn,env.kindOf x=some .local∨(L=false∧(x≠("__class__":Str)∧env.kindOf x=some .cell)))->Tg ns env L t k is
theorem zL{P:Prop}{f:List Str->Bool}(t:Expr):∀{k:Nat},PC k t f=true->(∀tn,Ur t k tn->f tn=true->P)->P
 |0,h,q=>E.cJ (P:=λ t=>(∀tn,Ur t 0 tn->f tn=true->P)->P) t h (λ x p h q=>q [x] ⟨.inl ⟨rfl,rfl⟩,λ{ns env L is} hl hn hk=>match is,hl with
   |[i],_=>.one (hn 0 i _ rfl rfl) (hk _ (.head _))⟩ h) q
 |k+1,h,q=>E.zI (P:=λ t=>(∀tn,Ur t (k+1) tn->f tn=true->P)->P) t h (λ es c p h q=>
   have hl:=X9 (an h).1
   mA (an h).2 λ tn m h=>q tn ⟨.inr ⟨hl.symm.trans m.len.symm,eP _⟩,λ a b c=>.tup (m.Za a b c) hl⟩ h) q
theorem DY{nm:List (Str×NameKind)}{sc:Scope}{env:Env}(h:WB nm sc=true)(hn:∀x,env.kindOf x=nm.lookup x):OK sc env:=by
 have h2:=an (an h).2
 have h3:=an h2.2
 have h4:=an h3.2
 refine⟨eq_of_beq (an h).1,dK _|>.mp h2.1,dK _|>.mp h3.1,λ x hx=>?_,λ x hx=>?_⟩
 ·have:=an (G3.mp h4.1 x hx)
  exact⟨bH.mp this.1,eq_of_beq this.2⟩
 ·refine(N0.mp (G3.mp h4.2 _ hx)).elim (λ h=>absurd rfl (bH.mp h)) λ h=>⟨bH.mp (an h).1,?_⟩
  rw[hn]
  exact(N0.mp (an h).2).imp eq_of_beq eq_of_beq
theorem pQ{nm:List (Str×NameKind)}{sc:Scope}{env:Env}{cl:List (Str×Addr)}{C:Addr}(hE:U5 env)(hn:∀x,env.kindOf x=nm.lookup x)(x:Str):(compEnvC sc cl C env).kindOf x=(ME nm sc.names).lookup x:=by
 have e:(compEnvC sc cl C env).kindOf x=(sc.names.lookup x).map (vA env x):=eB _
 rw[e,<-eB]
 refine C7 (List.lookup x) (P1 λ p _=>?_)
 obtain⟨m,k⟩:=p
 dsimp only
 rw[hE.kind,hn m,show(ScopeKind.function==ScopeKind.function)=true from rfl,Bool.and_true]
section
variable{W:Wd}{n:Nat}{tb:fM}{gt:List GE}
theorem EY{ns:List (Option Str)}{env:Env}(cond:PE)(h:yY cond=true):yK W n ns env [] (wp W tb n cond).t:=
 NI (P:=λ cond=>yK W n ns env [] (wp W tb n cond).t) cond h λ A s ρ σ Q rm S F q=>by
  refine A0 ((show ∃b,zJ σ (.bool true)=some b∧Q b σ from q)) λ b hZ=>?_;delta hZ hb q
  cases hb
  exact YS A s ρ σ Q rm S F q
theorem FH{sc:Scope}{ns:List (Option Str)}{env:Env}{t:Expr}{tg:Nat}{tn:List Str}(hT:Ur t tg tn)(h3:tn.all (λ y=>sc.names.lookup y==some .local)=true)(cl:List (Str×Addr))(C:Addr):
  Tg (zC sc ns++tn.map some) (compEnvC sc cl C env) true t tg ((List.range tn.length).map (ns.length+·)):=by
 refine hT.tg (by rw[A8,D9]) (λ j i x a b=>?_) λ x hx=>.inl (UB (eq_of_beq (G3.mp h3 x hx)))
 rw[H9,bX (D3.mp b).1]at a
 have lc:(zC sc ns).length=ns.length:=by unfold zC;rw[A8]
 rw[<-G8 a,N2 (lc▸J6 _ _),lc,W0,H9,b];rfl
theorem GU{x:Str}(h:Vx x=true):(x==("__debug__":Str))=false:=dK _|>.mp h
theorem AX{b:Bool}(h:(!b)=true):b=false:=dK _|>.mp h
mutual
theorem S9(hW:W.Ok)(hT:W.jL tb)(G:wL W gt):∀(p:PE) (ns:List (Option Str)) (nm:List (Str×NameKind)) (e:Expr),mE gt p ns nm e=true->∀env,U5 env->(∀x,env.kindOf x=nm.lookup x)->cN W n ns env e (wp W tb n p)
 |.none,ns,nm,e,h,env,hE,hn=>E.uF (P:=λ e=>cN W n ns env e (wp W tb n .none)) e h λ c k p h=>C.yT (P:=λ c=>cN W n ns env (.Constant c k p) (wp W tb n .none)) c h (cN.of Eg λ _=>rfl)
 |.bool b,ns,nm,e,h,env,hE,hn=>E.uF (P:=λ e=>cN W n ns env e (wp W tb n (.bool b))) e h λ c k p h=>C.pX (P:=λ c=>cN W n ns env (.Constant c k p) (wp W tb n (.bool b))) c h λ x h=>eq_of_beq h▸cN.of El λ _=>rfl
 |.int i,ns,nm,e,h,env,hE,hn=>E.uF (P:=λ e=>cN W n ns env e (wp W tb n (.int i))) e h λ c k p h=>C.pA (P:=λ c=>cN W n ns env (.Constant c k p) (wp W tb n (.int i))) c h λ x h=>eq_of_beq h▸cN.of Me λ _=>rfl
 |.str s,ns,nm,e,h,env,hE,hn=>E.uF (P:=λ e=>cN W n ns env e (wp W tb n (.str s))) e h λ c k p h=>C.zO (P:=λ c=>cN W n ns env (.Constant c k p) (wp W tb n (.str s))) c h λ x h=>by
  obtain rfl:=eq_of_beq (an h).1
  exact cN.of (Ly (LT (an h).2)) λ _=>rfl
 |.loc i,ns,nm,e,h,env,hE,hn=>E.cJ (P:=λ e=>cN W n ns env e (wp W tb n (.loc i))) e h λ x p h=>cN.of (Mc hE (fT (an h).1) (GU (an (an h).2).1) (AX (an (an h).2).2)) λ _=>rfl
 |.gi k i,ns,nm,e,h,env,hE,hn=>E.cJ (P:=λ e=>cN W n ns env e (wp W tb n (.gi k i))) e h λ x p h=>SL (an h).2 λ y v l hk h2=>by
  obtain rfl:=eq_of_beq (an h2).1
  exact V.pA (P:=λ v=>gt[k]? =some (y,v,l)->cN W n ns env (.Name y p) (wp W tb n (.gi k i))) v (an h2).2 (λ j t h3 hk=>by
   obtain rfl:=eq_of_beq h3
   exact cN.of (Rw hW hE ((hn y).trans (eq_of_beq (an (an h).1).1)) (GU (an (an h).1).2) (G.is k _ _ _ hk)) λ _=>rfl) hk
 |.gs k l,ns,nm,e,h,env,hE,hn=>E.cJ (P:=λ e=>cN W n ns env e (wp W tb n (.gs k l))) e h λ x p h=>SL (an (an (an h).2).2).2 λ y v l' hk h2=>by
  obtain rfl:=eq_of_beq (an h2).1
  obtain rfl:=eq_of_beq (an h2).2
  have h3:=an (an h).2
  obtain⟨t,vs,d,m,sl,rfl,ht,hc⟩:=G.tup k _ _ _ hk λ q=>by rw[q]at h3;exact C5 h3.1
  exact cN.of (λ A s ρ σ Q rm S F q=>hW.glob hE ((hn y).trans (eq_of_beq (an (an h).1).1)) (GU (an (an h).1).2) S (G.is k _ _ _ hk) ⟨_,σ,q,by
   have r:=BU (h:=s.heap) hc
   rw[G2]at r
   exact .tup ⟨_,hW.ID.keeps S.keep _ _ ht,rfl,m,rfl⟩ r (by rw[A8];exact A9 (D0 (an h3.2).1) (by decide)),S,.refl _ _,.refl _⟩) λ _=>rfl
 |.attr o f,ns,nm,e,h,env,hE,hn=>E.zF (P:=λ e=>cN W n ns env e (wp W tb n (.attr o f))) e h λ x a p h=>cN.of (Em hW (eq_of_beq (an h).1) (xF (an (an h).2).1) (S9 hW hT G o ns nm _ (an (an h).2).2 env hE hn).v) λ _=>rfl
 |.sub o i,ns,nm,e,h,env,hE,hn=>E.LW (P:=λ e=>cN W n ns env e (wp W tb n (.sub o i))) e h λ x y p h=>cN.of (Lx (S9 hW hT G o ns nm _ (an h).1 env hE hn).v (S9 hW hT G i ns nm _ (an h).2 env hE hn).v) λ _=>rfl
 |.wQ o lo hi,ns,nm,e,h,env,hE,hn=>E.LW (P:=λ e=>cN W n ns env e (wp W tb n (.wQ o lo hi))) e h λ x y p h=>E.Jl (P:=λ y=>cN W n ns env (.Subscript x y p) (wp W tb n (.wQ o lo hi))) y h λ l u s p' h=>by
  have part:∀(q:PE) (o:Option Expr),(∀x,mE gt q ns nm x=true->cN W n ns env x (wp W tb n q))->Option.rec (motive:=λ _=>Bool) (tZ q) (λ e=>mE gt q ns nm e) o=true->Oi W n ns env o (wp W tb n q).v:=λ q o ih hq=>match o,hq with
   |some x,hq=>YV (ih x hq).v
   |none,hq=>JS (P:=λ q=>Oi W n ns env none (wp W tb n q).v) q hq YW
  have h2:=an (an h).2
  refine Aw (P:=λ s=>cN W n ns env (.Subscript x (.Slice l u s p') p) (wp W tb n (.wQ o lo hi))) s (an h).1 (cN.of (Lz hW (S9 hW hT G o ns nm _ h2.1 env hE hn).v (part lo l (λ x hx=>S9 hW hT G lo ns nm x hx env hE hn) (an h2.2).1) (part hi u (λ x hx=>S9 hW hT G hi ns nm x hx env hE hn) (an h2.2).2)) λ _=>rfl)
 |.absent,ns,nm,e,h,env,hE,hn=>(C5 h).elim
 |.bin op a b,ns,nm,e,h,env,hE,hn=>E.OE (P:=λ e=>cN W n ns env e (wp W tb n (.bin op a b))) e h λ l o r p h=>by
  obtain rfl:=eq_of_beq (an h).1
  exact cN.of (Mg hW (S9 hW hT G a ns nm _ (an (an h).2).1 env hE hn).v (S9 hW hT G b ns nm _ (an (an h).2).2 env hE hn).v) λ _=>rfl
 |.neg a,ns,nm,e,h,env,hE,hn=>E.VL (P:=λ e=>cN W n ns env e (wp W tb n (.neg a))) e h λ o x p h=>by
  obtain rfl:=eq_of_beq (an h).1
  exact cN.of (Mb (S9 hW hT G a ns nm _ (an h).2 env hE hn).v) λ _=>rfl
 |.cmp op a b,ns,nm,e,h,env,hE,hn=>E.vZ (P:=λ e=>cN W n ns env e (wp W tb n (.cmp op a b))) e h λ l os rs p h=>lN (P:=λ os=>cN W n ns env (.Compare l os rs p) (wp W tb n (.cmp op a b))) os h λ o h=>lN (P:=λ rs=>cN W n ns env (.Compare l [o] rs p) (wp W tb n (.cmp op a b))) rs h λ r h=>by
  obtain rfl:=eq_of_beq (an h).1
  have h2:=an (an h).2
  have ha:=(S9 hW hT G a ns nm _ (an h2.2).1 env hE hn).v
  have hb:=(S9 hW hT G b ns nm _ (an h2.2).2 env hE hn).v
  exact⟨Mf hW ha hb (AX h2.1),Er hW ha hb (AX h2.1)⟩
 |.KF Py Px a b c,ns,nm,e,h,env,hE,hn=>E.vZ (P:=λ e=>cN W n ns env e (wp W tb n (.KF Py Px a b c))) e h λ l os rs p h=>SK (P:=λ os=>cN W n ns env (.Compare l os rs p) (wp W tb n (.KF Py Px a b c))) os h λ o1 o2 h=>SK (P:=λ rs=>cN W n ns env (.Compare l [o1,o2] rs p) (wp W tb n (.KF Py Px a b c))) rs h λ r t h=>by
  obtain rfl:=eq_of_beq (an h).1
  have h2:=an (an h).2
  clear h;obtain rfl:=eq_of_beq h2.1
  have h3:=an h2.2
  have h4:=an h3.2
  have ha:=(S9 hW hT G a ns nm _ h4.1 env hE hn).v
  have hb:=(S9 hW hT G b ns nm _ (an h4.2).1 env hE hn).v
  have hc:=(S9 hW hT G c ns nm _ (an h4.2).2 env hE hn).v
  exact⟨Ej hW ha hb hc (AX h3.1),YU hW ha hb hc (AX h3.1)⟩
 |.not a,ns,nm,e,h,env,hE,hn=>E.VL (P:=λ e=>cN W n ns env e (wp W tb n (.not a))) e h λ o x p h=>by
  obtain rfl:=eq_of_beq (an h).1
  have ha:=S9 hW hT G a ns nm _ (an h).2 env hE hn
  exact⟨Ma ha.v,En ha.t⟩
 |.and a b,ns,nm,e,h,env,hE,hn=>E.pX (P:=λ e=>cN W n ns env e (wp W tb n (.and a b))) e h λ o l p h=>by
  obtain rfl:=eq_of_beq (an h).1
  refine iT (P:=λ l=>cN W n ns env (.BoolOp .And l p) (wp W tb n (.and a b))) l (an h).2 λ x r h=>?_
  have ha:=S9 hW hT G a ns nm _ (an h).1 env hE hn
  exact iT (P:=λ r=>LC r (λ y q=>if q.isEmpty then mE gt b ns nm y else mE gt b ns nm (.BoolOp .And r p))=true->cN W n ns env (.BoolOp .And (x::r) p) (wp W tb n (.and a b))) r (an h).2 (λ y q _=>match q with
   |[]=>λ h=>have hb:=S9 hW hT G b ns nm _ h env hE hn;⟨YR ha.v hb.v,RE ha.t λ A s ρ σ Q rm S F q=>xK hb.t rm S F q⟩
   |z::q=>λ h=>have hb:=S9 hW hT G b ns nm _ h env hE hn;⟨YR ha.v hb.v,RE ha.t hb.t⟩) (an h).2
 |.or a b,ns,nm,e,h,env,hE,hn=>E.pX (P:=λ e=>cN W n ns env e (wp W tb n (.or a b))) e h λ o l p h=>by
  obtain rfl:=eq_of_beq (an h).1
  refine iT (P:=λ l=>cN W n ns env (.BoolOp .Or l p) (wp W tb n (.or a b))) l (an h).2 λ x r h=>?_
  have ha:=S9 hW hT G a ns nm _ (an h).1 env hE hn
  exact iT (P:=λ r=>LC r (λ y q=>if q.isEmpty then mE gt b ns nm y else mE gt b ns nm (.BoolOp .Or r p))=true->cN W n ns env (.BoolOp .Or (x::r) p) (wp W tb n (.or a b))) r (an h).2 (λ y q _=>match q with
   |[]=>λ h=>have hb:=S9 hW hT G b ns nm _ h env hE hn;⟨Ih ha.v hb.v,YT ha.t λ A s ρ σ Q rm S F q=>xK hb.t rm S F q⟩
   |z::q=>λ h=>have hb:=S9 hW hT G b ns nm _ h env hE hn;⟨Ih ha.v hb.v,YT ha.t hb.t⟩) (an h).2
 |.ite c a b,ns,nm,e,h,env,hE,hn=>E.NG (P:=λ e=>cN W n ns env e (wp W tb n (.ite c a b))) e h λ x y z p h=>
  have hc:=S9 hW hT G c ns nm _ (an h).1 env hE hn
  have ha:=S9 hW hT G a ns nm _ (an (an h).2).1 env hE hn
  have hb:=S9 hW hT G b ns nm _ (an (an h).2).2 env hE hn
  ⟨Md hc.t ha.v hb.v,Ep hc.t ha.t hb.t⟩
 |.tup es,ns,nm,e,h,env,hE,hn=>E.zI (P:=λ e=>cN W n ns env e (wp W tb n (.tup es))) e h λ l k p h=>cN.of (Lw (vS hW hT G es ns nm _ (an h).2 env hE hn) (D0 (an h).1)) λ _=>rfl
 |.list es,ns,nm,e,h,env,hE,hn=>E.Ct (P:=λ e=>cN W n ns env e (wp W tb n (.list es))) e h λ l p h=>cN.of (Ei (vS hW hT G es ns nm _ (an h).2 env hE hn) (D0 (an h).1)) λ _=>rfl
 |.dP,ns,nm,e,h,env,hE,hn=>E.Eu (P:=λ e=>cN W n ns env e (wp W tb n .dP)) e h λ a b p h=>cR (P:=λ a=>cN W n ns env (.Dict a b p) (wp W tb n .dP)) a (an h).1 (cR (P:=λ b=>cN W n ns env (.Dict [] b p) (wp W tb n .dP)) b (an h).2 (cN.of YQ λ _=>rfl))
 |.call k f args,ns,nm,e,h,env,hE,hn=>E.mM (P:=λ e=>cN W n ns env e (wp W tb n (.call k f args))) e h λ x xs ks pos h=>cR (P:=λ ks=>cN W n ns env (.Call x xs ks pos) (wp W tb n (.call k f args))) ks (an h).1<|E.cJ (P:=λ x=>cN W n ns env (.Call x xs [] pos) (wp W tb n (.call k f args))) x (an h).2 λ x p h=>SL (an (an h).2).2 λ y v l hk h2=>by
  obtain rfl:=eq_of_beq (an h2).1
  refine cR (P:=λ l=>gt[k]? =some (y,v,l)->cN W n ns env (.Call (.Name y p) xs [] pos) (wp W tb n (.call k f args))) l (an (an h2).2).1 (λ hk=>?_) hk
  obtain rfl:=zR (an (an h2).2).2
  exact cN.of (Ek hW hE ((hn y).trans (eq_of_beq (an (an h).1).1)) (GU (an (an h).1).2) (G.is k _ _ _ hk) (G.Kp (an (an h2).2).2 hk) (vS hW hT G args ns nm _ (an (an h).2).1 env hE hn)) λ _=>rfl
 |.H2 o f args,ns,nm,e,h,env,hE,hn=>E.mM (P:=λ e=>cN W n ns env e (wp W tb n (.H2 o f args))) e h λ x xs ks pos h=>cR (P:=λ ks=>cN W n ns env (.Call x xs ks pos) (wp W tb n (.H2 o f args))) ks (an h).1<|E.zF (P:=λ x=>cN W n ns env (.Call x xs [] pos) (wp W tb n (.H2 o f args))) x (an h).2 λ x a ap h=>
  have h2:=an (an h).2
  have h3:=an h2.2
  have h4:=an h3.2
  cN.of (Eh hW hT (eq_of_beq (an h).1) (xF h2.1) h3.1 (D0 h4.1) (S9 hW hT G o ns nm _ (an h4.2).1 env hE hn).v (vS hW hT G args ns nm _ (an h4.2).2 env hE hn)) λ _=>rfl
 |.sup _ _,ns,nm,e,h,env,hE,hn=>(C5 h).elim
 |.comp elt tg it cond,ns,nm,e,h,env,hE,hn=>E.RP (P:=λ e=>cN W n ns env e (wp W tb n (.comp elt tg it cond))) e h λ x gs sc p h=>lN (P:=λ gs=>cN W n ns env (.ListComp x gs sc p) (wp W tb n (.comp elt tg it cond))) gs h λ g h=>by
  obtain⟨t,i,ifs,as⟩:=g
  obtain rfl:as=0:=eq_of_beq (an h).1
  refine zL t (an (an h).2).2 λ tn c1 h3=>?_
  have h4:=an (an h3).2
  have h5:=an h4.2
  have h6:=an h5.2
  have h7:=an h6.2
  refine cN.of (RD hW hE (DY (an (an h).2).1 hn) c1.sz (HK h4.1) (FH c1 (an h3).1) (S9 hW hT G it ns nm _ h6.1 env hE hn).v (λ cl C Lm=>?_) (λ cl C Lm=>(S9 hW hT G elt _ _ _ h7.1 _ Lm (pQ hE hn)).v) (pT h5.1 env)) λ _=>rfl
  refine(N0.mp h7.2).elim (λ h=>cR (P:=λ ifs=>yK W n _ _ ifs (wp W tb n cond).t) ifs (an h).1 (EY cond (an h).2)) λ h=>lN (P:=λ ifs=>yK W n _ _ ifs (wp W tb n cond).t) ifs h λ c h=>JY (S9 hW hT G cond _ _ _ h _ Lm (pQ hE hn)).t
 |.any,ns,nm,e,h,env,hE,hn=>(C5 h).elim
theorem vS(hW:W.Ok)(hT:W.jL tb)(G:wL W gt):∀(p:uM) (ns:List (Option Str)) (nm:List (Str×NameKind)) (es:List Expr),Hn gt p ns nm es=true->∀env,U5 env->(∀x,env.kindOf x=nm.lookup x)->UW W n ns env es (DO W tb n p)
 |.nil,ns,nm,es,h,env,hE,hn=>cR (P:=λ es=>UW W n ns env es (DO W tb n .nil)) es h RF
 |.cons p r,ns,nm,es,h,env,hE,hn=>iT (P:=λ es=>UW W n ns env es (DO W tb n (.cons p r))) es h λ e q h=>JZ (an h).1 (S9 hW hT G p ns nm e (an (an h).2).1 env hE hn).v (vS hW hT G r ns nm q (an (an h).2).2 env hE hn)
end
end
section
def tY(nm:List (Str×NameKind))(x:Str):Bool:=nm.lookup x==some .local||(x !=("__class__":Str)&&nm.lookup x==some .cell)
theorem oZ{nm:List (Str×NameKind)}{x:Str}{env:Env}(h:tY nm x=true)(hn:∀x,env.kindOf x=nm.lookup x):env.kindOf x=some .local∨(x≠("__class__":Str)∧env.kindOf x=some .cell):=by
 rw[hn]
 exact(N0.mp h).imp eq_of_beq λ h=>⟨bH.mp (an h).1,eq_of_beq (an h).2⟩
def BB(ns:List (Option Str)):List Nat->List Str->Bool
 |[],xs=>LN xs
 |i::is,xs=>LC xs λ x q=>tV ns i x&&BB ns is q
theorem pU{ns:List (Option Str)}:∀{is:List Nat} {xs:List Str},BB ns is xs=true->is.length=xs.length∧∀(j i:Nat) (x:Str),is[j]? =some i->xs[j]? =some x->ns[i]? =some (some x)
 |[],xs,h=>cR (P:=λ xs=>0=xs.length∧∀(j i:Nat) (x:Str),[][j]? =some i->xs[j]? =some x->ns[i]? =some (some x)) xs h ⟨rfl,λ j i x h _=>nomatch h⟩
 |i::is,xs,h=>iT (P:=λ xs=>is.length+1=xs.length∧∀(j i':Nat) (x:Str),(i::is)[j]? =some i'->xs[j]? =some x->ns[i']? =some (some x)) xs h λ x q h=>
  ⟨C7 (·+1) (pU (an h).2).1,λ j i' x' e1 e2=>match j with
   |0=>G8 e1▸G8 e2▸fT (an h).1
   |j+1=>(pU (an h).2).2 j i' x' e1 e2⟩
def v0(e:PE):Bool:=e.ctorIdx==25
def WW(e:Expr):Bool:=!(e.ctorIdx==25)
def Jj(ns:List (Option Str))(nm:List (Str×NameKind))(is:List Nat)(es:List Expr)(e:Expr):Bool:=L2 es λ a b=>E.name a λ x p1=>E.name b λ y p2=>E.tup e λ vs _ _=>L2 is λ i j=>
 nm.lookup x==some .local&&(nm.lookup y==some .local&&(p2.line==p1.line&&(tV ns i x&&(tV ns j y&&(i !=j&&(x !=y&&(vs.length==2&&(vs.all rH&&(!(vs.all (foldedForSure 8))&&!(vs.all (constantsAlone 8)))))))))))
set_option smartUnfolding false in
mutual
noncomputable def mS(gt:List GE)(ns:List (Option Str))(nm:List (Str×NameKind)):PS->Stmt->Bool
 |.expr p,st=>S.expr st λ e _=>yS e&&mE gt p ns nm e
 |.asg i p,st=>S.asg st λ ts e _=>L1 ts λ t=>E.name t λ x _=>tV ns i x&&(tY nm x&&((v0 p||yS e)&&mE gt p ns nm e))
 |.pK is p,st=>S.asg st λ ts e _=>L1 ts λ t=>E.tup t λ es _ _=>yS e&&(mE gt p ns nm e&&((WW e&&(decide (0<es.length)&&namesOf es λ tn=>BB ns is tn&&tn.all (tY nm)))||Jj ns nm is es e))
 |.Q1 o f p,st=>S.asg st λ ts e _=>L1 ts λ t=>E.attr t λ x a _=>a==Str.ofString f&&(mE gt o ns nm x&&mE gt p ns nm e)
 |.aN o i p,st=>S.asg st λ ts e _=>L1 ts λ t=>E.sub t λ x y _=>mE gt o ns nm x&&(mE gt i ns nm y&&mE gt p ns nm e)
 |.ite c a b,st=>S.ite st λ t x y _=>mE gt c ns nm t&&(XI gt ns nm a x&&XI gt ns nm b y)
 |.IB c a,st=>S.IB st λ t x o _=>LN o&&(mE gt c ns nm t&&XI gt ns nm a x)
 |.R6 i p a,st=>S.YD st λ t e b o _=>LN o&&E.name t λ x _=>tV ns i x&&(tY nm x&&(GT e&&(mE gt p ns nm e&&XI gt ns nm a b)))
 |.rT is p a,st=>S.YD st λ t e b o _=>LN o&&E.tup t λ es _ _=>GT e&&(mE gt p ns nm e&&(XI gt ns nm a b&&(decide (0<es.length)&&namesOf es λ tn=>BB ns is tn&&tn.all (tY nm))))
 |.forR i p a,st=>S.YD st λ t e b o _=>LN o&&E.name t λ x _=>E.call e λ g es ks _=>LN ks&&L1 es λ e=>E.name g λ y _=>tV ns i x&&(tY nm x&&(y==("reversed":Str)&&(nm.lookup ("reversed":Str)==some .globalImplicit&&(rH e&&
   (mE gt p ns nm e&&(XI gt ns nm a b&&GA gt 0 λ z v _=>z==("reversed":Str)&&EA (.type "reversed") v))))))
 |.ret p,st=>S.ret st λ o _=>OS o λ e=>mE gt p ns nm e
 |.WJ,st=>S.ret st λ o _=>ON o
 |.cont,st=>S.cont st λ _=>true
 |.pass,st=>S.pass st λ _=>true
 |.any,_=>true
noncomputable def XI(gt:List GE)(ns:List (Option Str))(nm:List (Str×NameKind)):V0->List Stmt->Bool
 |.nil,st=>LN st
 |.cons p r,st=>LC st λ s q=>mS gt ns nm p s&&XI gt ns nm r q
end
theorem LU{e o:Expr}{a:Str}{p:Pos}{l:Nat}{env:Env}:swapsWith e (some (.Attribute o a p)) l env=pure false:=by cases e<;>rfl
theorem SN{e o i:Expr}{p:Pos}{l:Nat}{env:Env}:swapsWith e (some (.Subscript o i p)) l env=pure false:=by cases e<;>rfl
theorem DU{e:Expr}{es:List Expr}{c:Nat}{tp:Pos}{l:Nat}{env:Env}:swapsWithSole [.Tuple es c tp] e l env=pure false:=by cases e<;>rfl
theorem DV{e:Expr}{t:Option Expr}{l:Nat}{env:Env}(h:yS e=true):swapsWith e t l env=pure false:=by cases e<;>first|rfl|cases h
theorem FX{e:Expr}{es:List Expr}{c:Nat}{tp:Pos}{env:Env}(h:WW e=true):swappedStores [.Tuple es c tp] e env=pure none:=by cases e<;>first|rfl|cases h
section
variable{W:Wd}{n:Nat}{tb:fM}{gt:List GE}{ns:List (Option Str)}{nm:List (Str×NameKind)}{env:Env}
theorem Ak(hW:W.Ok)(hT:W.jL tb)(G:wL W gt)(hE:U5 env)(hn:∀x,env.kindOf x=nm.lookup x){elt:PE}{tg:Nat}{it cond:PE}{i:Nat}{x:Str}{p' p:Pos}(e:Expr)(h:mE gt (.comp elt tg it cond) ns nm e=true)(hi:tV ns i x=true)(hk:tY nm x=true):
  Ex W n ns env (.Assign [.Name x p'] e p) (ws W tb n (.asg i (.comp elt tg it cond))):=
 E.RP (P:=λ e=>Ex W n ns env (.Assign [.Name x p'] e p) (ws W tb n (.asg i (.comp elt tg it cond)))) e h λ y gs sc pos h=>lN (P:=λ gs=>Ex W n ns env (.Assign [.Name x p'] (.ListComp y gs sc pos) p) (ws W tb n (.asg i (.comp elt tg it cond)))) gs h λ g h=>by
  obtain⟨t,i,ifs,as⟩:=g
  obtain rfl:as=0:=eq_of_beq (an h).1
  refine zL t (an (an h).2).2 λ tn c1 h3=>?_
  have h4:=an (an h3).2
  have h5:=an h4.2
  have h6:=an h5.2
  have h7:=an h6.2
  refine Ee hW hE (DY (an (an h).2).1 hn) c1.sz (HK h4.1) (FH c1 (an h3).1) (S9 hW hT G it ns nm _ h6.1 env hE hn).v (λ cl C Lm=>?_) (λ cl C Lm=>(S9 hW hT G elt _ _ _ h7.1 _ Lm (pQ hE hn)).v) (pT h5.1 env) (fT hi) (oZ hk hn)
  refine(N0.mp h7.2).elim (λ h=>cR (P:=λ ifs=>yK W n _ _ ifs (wp W tb n cond).t) ifs (an h).1 (EY cond (an h).2)) λ h=>lN (P:=λ ifs=>yK W n _ _ ifs (wp W tb n cond).t) ifs h λ c h=>JY (S9 hW hT G cond _ _ _ h _ Lm (pQ hE hn)).t
theorem VO{es:List Expr}{tn:List Str}{is:List Nat}(hn:∀x,env.kindOf x=nm.lookup x)(h1:Bp es tn)(h:(BB ns is tn&&tn.all (tY nm))=true):Ar ns env false es is:=
 h1.Za (pU (an h).1).1 (pU (an h).1).2 λ x hx=>(oZ (G3.mp (an h).2 x hx) hn).imp id λ k=>⟨rfl,k⟩
theorem bv{f:Expr->Option Str}{a b:Expr}{x y:Str}(h1:f a=some x)(h2:f b=some y):List.filterMap f [a,b]=[x,y]:=(List.filterMap_cons_some h1).trans (C7 (x::·) (List.filterMap_cons_some h2))
theorem IM{vs:List Expr}{x y:Str}{p1 p2 tp vp:Pos}{c c':Nat}(hE:U5 env)(hx:env.kindOf x=some .local)(hy:env.kindOf y=some .local)(hl:p2.line=p1.line)(Zv:x≠y)(hv:vs.length=2)
  (h1:vs.all rH=true)(h2:vs.all (foldedForSure 8)=false)(h3:vs.all (constantsAlone 8)=false):
  swappedStores [.Tuple [.Name x p1,.Name y p2] c tp] (.Tuple vs c' vp) env=pure (some [x,y]):=by
 have hb:env.blockKind=.function:=by unfold Env.blockKind;rw[hE.kind];rfl
 have Qt:[x,y].eraseDups=[x,y]:=by rw[List.eraseDups_cons,J3 (by rw[O0.mpr (hM Zv)];rfl)];rfl
 refine(G0 (by rw[hv,hb];exact C5)).trans ((G0 λ h=>A0 (jP.mp h) λ e q=>?_).trans ?_)
 ·have p:=G3.mp h1 e q.1
  have m:=q.2
  clear Qt c c' h1 h2 h3 hE hb q h hl hv hx Zv hy p1 p2 tp vp vs;cases e<;>first|exact(C5 p).elim|cases m
 dsimp only
 rw[bv (F7 (by rw[hx,O2];exact O2 _)) (F7 (by rw[hy,O2];exact jM.mpr hl))]
 exact(G0 (by rw[Qt];exact C5)).trans ((G0 λ h=>C5 (h2.symm.trans h)).trans (G0 λ h=>C5 (h3.symm.trans h)))
mutual
theorem QG(hW:W.Ok)(hT:W.jL tb)(G:wL W gt)(hE:U5 env)(hn:∀x,env.kindOf x=nm.lookup x):∀(p:PS) (st:Stmt),mS gt ns nm p st=true->Ex W n ns env st (ws W tb n p)
 |.expr p,st,h=>S.RB (P:=λ st=>Ex W n ns env st (ws W tb n (.expr p))) st h λ e _ h=>Dy hE (DV (an h).1) (S9 hW hT G p ns nm _ (an h).2 env hE hn).v
 |.asg i p,st,h=>S.HU (P:=λ st=>Ex W n ns env st (ws W tb n (.asg i p))) st h λ ts e q h=>lN (P:=λ ts=>Ex W n ns env (.Assign ts e q) (ws W tb n (.asg i p))) ts h λ t h=>E.cJ (P:=λ t=>Ex W n ns env (.Assign [t] e q) (ws W tb n (.asg i p))) t h λ x xp h0=>
  have h2:=an (an h0).2
  have h3:=an h2.2
  (N0.mp h3.1).elim (λ hc=>PE.comp.elim (motive_1:=λ p=>mE gt p ns nm e=true->Ex W n ns env (.Assign [.Name x xp] e q) (ws W tb n (.asg i p))) p (eq_of_beq hc) (λ elt tg it cond h=>Ak hW hT G hE hn e h (an h0).1 h2.1) h3.2)
   λ hc=>YO hE (fT (an h0).1) (oZ h2.1 hn) (DV hc) (S9 hW hT G p ns nm _ h3.2 env hE hn).v
 |.pK is p,st,h=>S.HU (P:=λ st=>Ex W n ns env st (ws W tb n (.pK is p))) st h λ ts e q h=>lN (P:=λ ts=>Ex W n ns env (.Assign ts e q) (ws W tb n (.pK is p))) ts h λ t h=>E.zI (P:=λ t=>Ex W n ns env (.Assign [t] e q) (ws W tb n (.pK is p))) t h λ es c tp h=>
  have h2:=an (an h).2
  have he:=(S9 (n:=n) hW hT G p ns nm _ h2.1 env hE hn).v
  (N0.mp h2.2).elim (λ g=>
   have g2:=an (an g).2
   mA g2.2 λ tn m hh=>match es,D0 g2.1,m with
    |e1::es,_,m=>Eb hE (VO hn m hh) rfl DU (FX (an g).1) he)
   λ g=>SK (P:=λ es=>Ex W n ns env (.Assign [.Tuple es c tp] e q) (ws W tb n (.pK is p))) es g λ a b g=>E.cJ (P:=λ a=>Ex W n ns env (.Assign [.Tuple [a,b] c tp] e q) (ws W tb n (.pK is p))) a g λ x p1 g=>
    E.cJ (P:=λ b=>Ex W n ns env (.Assign [.Tuple [.Name x p1,b] c tp] e q) (ws W tb n (.pK is p))) b g λ y p2 g=>E.zI (P:=λ e=>Ev W n ns env e (wp W tb n p).v->Ex W n ns env (.Assign [.Tuple [.Name x p1,.Name y p2] c tp] e q) (ws W tb n (.pK is p))) e g (λ vs c' vp g he=>
     SK (P:=λ is=>Ex W n ns env (.Assign [.Tuple [.Name x p1,.Name y p2] c tp] (.Tuple vs c' vp) q) (ws W tb n (.pK is p))) is g λ i j g=>
      have g2:=an (an g).2
      have g3:=an g2.2
      have g4:=an g3.2
      have g5:=an g4.2
      have g6:=an g5.2
      have g7:=an g6.2
      have g8:=an g7.2
      have g9:=an g8.2
      have hx:=(hn x).trans (eq_of_beq (an g).1)
      have hy:=(hn y).trans (eq_of_beq g2.1)
      YN hE (fT g4.1) (fT g5.1) hx hy (bH.mp g6.1) DU (IM hE hx hy (eq_of_beq g3.1) (bH.mp g7.1) (eq_of_beq g8.1) g9.1 (AX (an g9.2).1) (AX (an g9.2).2)) he) he
 |.Q1 o f p,st,h=>S.HU (P:=λ st=>Ex W n ns env st (ws W tb n (.Q1 o f p))) st h λ ts e q h=>lN (P:=λ ts=>Ex W n ns env (.Assign ts e q) (ws W tb n (.Q1 o f p))) ts h λ t h=>E.zF (P:=λ t=>Ex W n ns env (.Assign [t] e q) (ws W tb n (.Q1 o f p))) t h λ x a _ h=>
  Ef hW hT (eq_of_beq (an h).1) LU (S9 hW hT G p ns nm _ (an (an h).2).2 env hE hn).v (S9 hW hT G o ns nm _ (an (an h).2).1 env hE hn).v
 |.aN o i p,st,h=>S.HU (P:=λ st=>Ex W n ns env st (ws W tb n (.aN o i p))) st h λ ts e q h=>lN (P:=λ ts=>Ex W n ns env (.Assign ts e q) (ws W tb n (.aN o i p))) ts h λ t h=>E.LW (P:=λ t=>Ex W n ns env (.Assign [t] e q) (ws W tb n (.aN o i p))) t h λ x y _ h=>
  Ed hW SN (S9 hW hT G p ns nm _ (an (an h).2).2 env hE hn).v (S9 hW hT G o ns nm _ (an h).1 env hE hn).v (S9 hW hT G i ns nm _ (an (an h).2).1 env hE hn).v
 |.ite c a b,st,h=>S.NG (P:=λ st=>Ex W n ns env st (ws W tb n (.ite c a b))) st h λ t x y _ h=>Rt (S9 hW hT G c ns nm _ (an h).1 env hE hn).t (mD hW hT G hE hn a _ (an (an h).2).1) (mD hW hT G hE hn b _ (an (an h).2).2)
 |.IB c a,st,h=>S.Ja (P:=λ st=>Ex W n ns env st (ws W tb n (.IB c a))) st h λ t x o q h=>cR (P:=λ o=>Ex W n ns env (.While t x o q) (ws W tb n (.IB c a))) o (an h).1 (YL (S9 hW hT G c ns nm _ (an (an h).2).1 env hE hn).t (mD hW hT G hE hn a _ (an (an h).2).2))
 |.R6 i p a,st,h=>S.HH (P:=λ st=>Ex W n ns env st (ws W tb n (.R6 i p a))) st h λ t e b o q h=>cR (P:=λ o=>Ex W n ns env (.For t e b o q) (ws W tb n (.R6 i p a))) o (an h).1<|E.cJ (P:=λ t=>Ex W n ns env (.For t e b [] q) (ws W tb n (.R6 i p a))) t (an h).2 λ x _ h=>
  have h2:=an (an h).2
  have h3:=an h2.2
  YM hW hE (.one (fT (an h).1) ((oZ h2.1 hn).imp id λ k=>⟨rfl,k⟩)) (S9 hW hT G p ns nm _ (an h3.2).1 env hE hn).v (mD hW hT G hE hn a _ (an h3.2).2) (λ x ρ σ R q=>⟨[x],rfl,q⟩) (pT h3.1 env)
 |.rT is p a,st,h=>S.HH (P:=λ st=>Ex W n ns env st (ws W tb n (.rT is p a))) st h λ t e b o q h=>cR (P:=λ o=>Ex W n ns env (.For t e b o q) (ws W tb n (.rT is p a))) o (an h).1<|E.zI (P:=λ t=>Ex W n ns env (.For t e b [] q) (ws W tb n (.rT is p a))) t (an h).2 λ es c tp h=>
  have h2:=an (an h).2
  have h3:=an h2.2
  have h4:=an h3.2
  mA h4.2 λ tn m hh=>match es,D0 h4.1,m with
   |e1::es,_,m=>
    have tg:=VO (env:=env) hn m hh
    YM hW hE (.tup tg rfl) (S9 hW hT G p ns nm _ h2.1 env hE hn).v (mD hW hT G hE hn a _ h3.1) (λ x ρ σ R ⟨ys,e,l,q⟩=>⟨ys,by subst e;exact F7 (l.trans tg.len),q⟩) (pT (an h).1 env)
 |.forR i p a,st,h=>S.HH (P:=λ st=>Ex W n ns env st (ws W tb n (.forR i p a))) st h λ t e b o q h=>cR (P:=λ o=>Ex W n ns env (.For t e b o q) (ws W tb n (.forR i p a))) o (an h).1<|E.cJ (P:=λ t=>Ex W n ns env (.For t e b [] q) (ws W tb n (.forR i p a))) t (an h).2 λ x xp h=>
  E.mM (P:=λ e=>Ex W n ns env (.For (.Name x xp) e b [] q) (ws W tb n (.forR i p a))) e h λ g es ks cp h=>cR (P:=λ ks=>Ex W n ns env (.For (.Name x xp) (.Call g es ks cp) b [] q) (ws W tb n (.forR i p a))) ks (an h).1<|
  lN (P:=λ es=>Ex W n ns env (.For (.Name x xp) (.Call g es [] cp) b [] q) (ws W tb n (.forR i p a))) es (an h).2 λ e h=>E.cJ (P:=λ g=>Ex W n ns env (.For (.Name x xp) (.Call g [e] [] cp) b [] q) (ws W tb n (.forR i p a))) g h λ y gp h0=>by
   have h2:=an (an h0).2
   have h3:=an h2.2
   have h4:=an h3.2
   have h5:=an h4.2
   have h6:=an h5.2
   have h7:=an h6.2
   obtain rfl:=eq_of_beq h3.1
   refine SL h7.2 λ z v l hk h=>?_
   obtain rfl:=eq_of_beq (an h).1
   obtain rfl:=zR (an h).2
   exact Dx hW hE ((hn _).trans (eq_of_beq h4.1)) (G.is 0 _ _ _ hk) h5.1 (.one (fT (an h0).1) ((oZ h2.1 hn).imp id λ k=>⟨rfl,k⟩)) (S9 hW hT G p ns nm _ h6.1 env hE hn).v (mD hW hT G hE hn a _ h7.1) (λ x ρ σ R q=>⟨[x],rfl,q⟩)
 |.ret p,st,h=>S.WI (P:=λ st=>Ex W n ns env st (ws W tb n (.ret p))) st h λ o q h=>iS (P:=λ o=>Ex W n ns env (.Return o q) (ws W tb n (.ret p))) o h λ e h=>Lu (S9 hW hT G p ns nm _ h env hE hn).v
 |.WJ,st,h=>S.WI (P:=λ st=>Ex W n ns env st (ws W tb n .WJ)) st h λ o q h=>Aw (P:=λ o=>Ex W n ns env (.Return o q) (ws W tb n .WJ)) o h Dv
 |.cont,st,h=>S.Fb (P:=λ st=>Ex W n ns env st (ws W tb n .cont)) st h λ _ _=>Dz
 |.pass,st,h=>S.Ci (P:=λ st=>Ex W n ns env st (ws W tb n .pass)) st h λ _ _=>Dw
 |.any,st,h=>λ A s ρ σ Q _ _ _ q=>q.elim
theorem mD(hW:W.Ok)(hT:W.jL tb)(G:wL W gt)(hE:U5 env)(hn:∀x,env.kindOf x=nm.lookup x):∀(p:V0) (st:List Stmt),XI gt ns nm p st=true->UV W n ns env st (S8 W tb n p)
 |.nil,st,h=>cR (P:=λ st=>UV W n ns env st (S8 W tb n .nil)) st h Du
 |.cons p r,st,h=>iT (P:=λ st=>UV W n ns env st (S8 W tb n (.cons p r))) st h λ s q h=>YK (QG hW hT G hE hn p s (an h).1) (mD hW hT G hE hn r q (an h).2)
end
end
end
def ZI(x:PV)(v:Value):Bool:=match x with
 |.none=>V.none v
 |.bool a=>V.bool v λ b=>a==b
 |.int a=>V.int v λ b _=>a==b
 |.str a=>V.str v λ b _=>a==b&&decide (b.length<=1000)
 |_=>false
theorem TZ{v:Value}:∀x:PV,ZI x v=true->gI x v
 |.none=>λ h=>V.yT (P:=gI .none) v h .none
 |.bool a=>λ h=>V.pX (P:=gI (.bool a)) v h λ b h=>eq_of_beq h▸.bool _
 |.int a=>λ h=>V.pA (P:=gI (.int a)) v h λ b _ h=>eq_of_beq h▸.int _ _
 |.str a=>λ h=>V.zO (P:=gI (.str a)) v h λ b _ h=>eq_of_beq (an h).1▸.str _ _ (LT (eq_of_beq (an h).1▸(an h).2))
 |.tup _|.ref _|.rZ _ _|.M7=>λ h=>(C5 h).elim
def NQ:List PV->List Value->Bool
 |[],vs=>LN vs
 |a::r,vs=>LC vs λ v q=>ZI a v&&NQ r q
theorem FF:∀{ds:List PV} {vs:List Value},NQ ds vs=true->bV ds vs
 |[],vs,h=>cR (P:=bV []) vs h .nil
 |a::r,vs,h=>iT (P:=bV (a::r)) vs h λ v q h=>.cons (TZ a (an h).1) (FF (an h).2)
def D.seq(e:Data)(g:(Array Value)->Nat->Bool):Bool:=if h:e.ctorIdx=2 then Data.seq.elim (motive:=λ _=>Bool) e h λ v n=>g v n else false
theorem D.VZ{P:Data->Prop}{g:(Array Value)->Nat->Bool}(e:Data)(h:D.seq e g=true)(q:∀v n,g v n=true->P (Data.seq v n)):P e:=Data.seq.elim (motive:=λ e=>D.seq e g=true->P e) e (dt h) (λ v n h=>q v n h) h
def D.cell(e:Data)(g:(Option Value)->Bool):Bool:=if h:e.ctorIdx=6 then Data.cell.elim (motive:=λ _=>Bool) e h λ v=>g v else false
theorem D.Fh{P:Data->Prop}{g:(Option Value)->Bool}(e:Data)(h:D.cell e g=true)(q:∀v,g v=true->P (Data.cell v)):P e:=Data.cell.elim (motive:=λ e=>D.cell e g=true->P e) e (dt h) (λ v h=>q v h) h
def D.func(e:Data)(g:FuncData->Bool):Bool:=if h:e.ctorIdx=7 then Data.func.elim (motive:=λ _=>Bool) e h λ d=>g d else false
theorem D.Dm{P:Data->Prop}{g:FuncData->Bool}(e:Data)(h:D.func e g=true)(q:∀d,g d=true->P (Data.func d)):P e:=Data.func.elim (motive:=λ e=>D.func e g=true->P e) e (dt h) (λ d h=>q d h) h
def D.fields(e:Data)(g:(Array Value)->Bool):Bool:=if h:e.ctorIdx=9 then Data.fields.elim (motive:=λ _=>Bool) e h λ v=>g v else false
theorem D.TQ{P:Data->Prop}{g:(Array Value)->Bool}(e:Data)(h:D.fields e g=true)(q:∀v,g v=true->P (Data.fields v)):P e:=Data.fields.elim (motive:=λ e=>D.fields e g=true->P e) e (dt h) (λ v h=>q v h) h
def FB.stmts(e:FuncBody)(g:(List Stmt)->Bool):Bool:=if h:e.ctorIdx=0 then FuncBody.stmts.elim (motive:=λ _=>Bool) e h λ b=>g b else false
theorem FB.VU{P:FuncBody->Prop}{g:(List Stmt)->Bool}(e:FuncBody)(h:FB.stmts e g=true)(q:∀b,g b=true->P (FuncBody.stmts b)):P e:=FuncBody.stmts.elim (motive:=λ e=>FB.stmts e g=true->P e) e (dt h) (λ b h=>q b h) h
def Sa(K:Frag)(ds:List PV)(v:Value):Bool:=(V.none v&&LN ds)||V.ref v λ t=>OS (K.lookup t) λ o=>D.seq o.data λ vs _=>NQ ds vs.toList
theorem SJ{α:Type}{l:List α}(h:LN l=true):l=[]:=cR (P:=λ l=>l=[]) l h rfl
theorem SI{α:Type}{l:Option α}(h:ON l=true):l=none:=Aw (P:=λ l=>l=none) l h rfl
theorem Ew{K:Frag}{ds:List PV}{v:Value}(h:Sa K ds v=true):(ds=[]∧v=.none)∨∃t c d vs n sl,v=.ref t∧K.lookup t=some ⟨c,d,.seq (List.toArray vs) n,sl⟩∧bV ds vs:=
 (N0.mp h).imp (λ h=>⟨SJ (an h).2,V.yT (P:=λ v=>v=.none) v (an h).1 rfl⟩) λ h=>V.vB (P:=λ v=>∃t c d vs n sl,v=.ref t∧K.lookup t=some ⟨c,d,.seq (List.toArray vs) n,sl⟩∧bV ds vs) v h λ t h=>
  iS (P:=λ o=>K.lookup t=o->∃u c d vs n sl,Value.ref t=.ref u∧K.lookup u=some ⟨c,d,.seq (List.toArray vs) n,sl⟩∧bV ds vs) _ h (λ o=>match o with
   |⟨c,d,da,sl⟩=>λ h=>D.VZ (P:=λ da=>K.lookup t=some ⟨c,d,da,sl⟩->∃u c d vs n sl,Value.ref t=.ref u∧K.lookup u=some ⟨c,d,.seq (List.toArray vs) n,sl⟩∧bV ds vs) da h λ vs n h e=>⟨t,c,d,vs.toList,n,sl,rfl,by rw[Array.toArray_toList];exact e,FF h⟩) rfl
def MW:List Str->Bool
 |[]=>true
 |x::r=>!r.contains x&&MW r
theorem EN:∀{l:List Str},MW l=true->l.Nodup
 |[],_=>.nil
 |x::r,h=>N7.mpr ⟨λ m=>C5 ((AX (an h).1).symm.trans (jF.mpr m)),EN (an h).2⟩
def Xv(K:Frag)(fd:FuncData)(ps:List Str)(ds:List PV)(ls:List Str):Bool:=
 Nat.beq fd.globals mainGlobals&&(Nat.beq fd.builtins builtinsNs&&(codeIn K fd.code fd.qualname&&(LN fd.params.posonlyargs&&(fd.params.args.map (·.arg)==ps&&(LN fd.params.kwonlyargs&&(ON fd.params.vararg&&(ON fd.params.kwarg&&(fd.scope.kind==.function&&(!fd.scope.isGenerator&&(!fd.scope.isCoroutine&&
  (Sa K ds fd.defaults&&(MW (ps++ls)&&(ps.all (tY fd.scope.names)&&(fd.scope.names.all (λ x=>x.2 !=.free||x.1==("__class__":Str))&&ps.all (·!=("__class__":Str))))))))))))))))
theorem YE{K:Frag}{fd:FuncData}{ps ls:List Str}{ds:List PV}{a:Addr}{body:List Stmt}(h:Xv K fd ps ds ls=true)(ho:∃oc od Kd,K.lookup a=some ⟨oc,od,.func fd,Kd⟩)(hb:fd.body=.stmts body):Go K a ps ds ls body fd.scope fd:=
 have h2:=an (an h).2
 have h3:=an h2.2
 have h4:=an h3.2
 have h5:=an h4.2
 have h6:=an h5.2
 have h7:=an h6.2
 have h8:=an h7.2
 have h9:=an h8.2
 have Ln:=an h9.2
 have Rp:=an Ln.2
 have Ro:=an Rp.2
 have Rn:=an Ro.2
 have Rk:=an Rn.2
 have Rj:=an Rk.2
 ⟨ho,hb,rfl,X9 (an h).1,X9 h2.1,h3.1,SJ h4.1,eq_of_beq h5.1,SJ h6.1,SI h7.1,SI h8.1,eq_of_beq h9.1,AX Ln.1,AX Rp.1,Ew Ro.1,EN Rn.1,
  λ x hx=>(N0.mp (G3.mp Rk.1 x hx)).imp eq_of_beq λ h=>eq_of_beq (an h).2,λ x hx q=>(N0.mp (G3.mp Rj.1 x hx)).elim (λ h=>absurd q (bH.mp h)) eq_of_beq,λ x hx=>bH.mp (G3.mp Rj.2 x hx)⟩
def fnAt(K:Frag)(a:Addr)(f:FuncData->List Stmt->Bool):Bool:=OS (K.lookup a) λ o=>D.func o.data λ fd=>FB.stmts fd.body (f fd)
theorem QZ{P:Prop}{K:Frag}{a:Addr}{f:FuncData->List Stmt->Bool}(h:fnAt K a f=true)(q:∀fd body,(∃oc od Kd,K.lookup a=some ⟨oc,od,.func fd,Kd⟩)->fd.body=.stmts body->f fd body=true->P):P:=
 iS (P:=λ o=>K.lookup a=o->P) _ h (λ o=>match o with
  |⟨c,d,da,sl⟩=>λ h=>D.Dm (P:=λ da=>K.lookup a=some ⟨c,d,da,sl⟩->P) da h λ fd h e=>FB.VU (P:=λ b=>fd.body=b->P) _ h (λ b h e2=>q fd b ⟨c,d,sl,e⟩ e2 h) rfl) rfl
def i9(K:Frag)(gt:List GE)(cl:Bool)(a:Addr)(ps:List Str)(ds:List PV)(ls:List Str)(b:V0):Bool:=fnAt K a λ fd body=>XI gt ((ps++ls).map some) fd.scope.names b body&&(Xv K fd ps ds ls&&fd.closure.isEmpty==cl)
theorem mM{W:Wd}{n:Nat}{σ:PH}{tb:fM}{gt:List GE}{a:Addr}{ps ls:List Str}{ds:List PV}{b:V0}{args:List PV}{Q:PV->PH->Prop}(hW:W.Ok)(hT:W.jL tb)(G:wL W gt)(h:i9 W.K gt true a ps ds ls b=true)
  (h1:args.length<=ps.length)(h2:ds.length<=ps.length)(h3:ps.length<=args.length+ds.length)
  (hq:Oa W tb n b (args++ds.drop (ds.length+args.length - ps.length)++List.replicate ls.length .M7) σ Q):KW W (n+1) (.ref a) args σ Q:=
 QZ h λ fd body ho hb h=>Rr hW (YE (an (an h).2).1 ho hb) ⟨List.isEmpty_iff.mp (eq_of_beq (an (an h).2).2)⟩ (λ env hE hs=>mD hW hT G hE (λ x=>by unfold Env.kindOf;rw[hs]) b body (an h).1) h1 h2 h3 hq
structure O9 where
 a:Addr
 ps:List String
 ds:List PV
 ls:List String
 b:V0
def O9.ok(K:Frag)(gt:List GE)(r:O9):Bool:=i9 K gt true r.a (r.ps.map Str.ofString) r.ds (r.ls.map Str.ofString) r.b
def O9.frame(r:O9)(args:List PV):Option (List PV):=if And (args.length<=r.ps.length) (And (r.ds.length<=r.ps.length) (r.ps.length<=args.length+r.ds.length))then some (args++r.ds.drop (r.ds.length+args.length - r.ps.length)++List.replicate r.ls.length .M7)else none
theorem O9.call{W:Wd}{n:Nat}{σ:PH}{tb:fM}{gt:List GE}{r:O9}{args ρ:List PV}{Q:PV->PH->Prop}(hW:W.Ok)(hT:W.jL tb)(G:wL W gt)(h:r.ok W.K gt=true)(hf:r.frame args=some ρ)(hq:Oa W tb n r.b ρ σ Q):KW W (n+1) (.ref r.a) args σ Q:=by
 unfold O9.frame at hf
 have lp:∀l:List String,(l.map Str.ofString).length=l.length:=λ _=>A8 ..
 by_cases c:And (args.length<=r.ps.length) (And (r.ds.length<=r.ps.length) (r.ps.length<=args.length+r.ds.length))
 ·rw[F7 c]at hf
  rw[<-G8 hf]at hq
  refine mM hW hT G h ?_ ?_ ?_ ?_<;>rw[lp]
  ·exact c.1
  ·exact c.2.1
  ·exact c.2.2
  ·rw[lp];exact hq
 ·rw[G0 c]at hf;cases hf
def IQ(f v:Value):Bool:=EA f v||V.int f λ i t=>V.int v λ j u=>i==j&&Nat.beq t u
theorem sZ{f g:Value}(h:IQ f g=true):f=g:=(N0.mp h).elim zR λ h=>
 V.pA (P:=λ f=>f=g) f h λ i t h=>V.pA (P:=λ g=>Value.int i t=g) g h λ j u h=>eq_of_beq (an h).1▸X9 (an h).2▸rfl
def PW(K:Frag)(v:Value)(l:List String):Bool:=(V.ref v (λ a=>keepIn K (.ref a)||!LN l)||LN l&&!V.ref v λ _=>true)&&(LN l||V.ref v λ t=>OS (K.lookup t) λ o=>V.typ o.cls λ c=>c=="tuple"&&D.seq o.data λ vs _=>gV (l.map Str.ofString) vs.toList)
def br(K:Frag)(bl:List (Str×Value))(e:GE):Bool:=PW K e.2.1 e.2.2&&OS (nsIn K mainGlobals e.1) λ o=>OS o (IQ e.2.1)||ON o&&bl.any λ p=>p.1==e.1&&IQ p.2 e.2.1
def gtB(K:Frag)(bl:List (Str×Value))(gt:List GE):Bool:=gt.all (br K bl)
theorem MF{K:Frag}{a:Addr}(h:PW K (.ref a) []=true):keepIn K (.ref a)=true:=(N0.mp (an h).1).elim (λ h=>(N0.mp h).elim id λ h=>(C5 h).elim) λ h=>(C5 h).elim
theorem SU{K:Frag}{v:Value}{l:List String}(h:PW K v l=true)(hl:l≠[]):∃t vs d m sl,v=.ref t∧K.lookup t=some ⟨.type "tuple",d,.seq (List.toArray vs) m,sl⟩∧gV (l.map Str.ofString) vs=true:=
 (N0.mp (an h).2).elim (λ h=>absurd (SJ h) hl) λ h=>V.vB (P:=λ v=>∃t vs d m sl,v=.ref t∧K.lookup t=some ⟨.type "tuple",d,.seq (List.toArray vs) m,sl⟩∧gV (l.map Str.ofString) vs=true) v h λ t h=>
  iS (P:=λ o=>K.lookup t=o->∃u vs d m sl,Value.ref t=.ref u∧K.lookup u=some ⟨.type "tuple",d,.seq (List.toArray vs) m,sl⟩∧gV (l.map Str.ofString) vs=true) _ h (λ o=>match o with
   |⟨c,d,da,sl⟩=>λ h=>V.FV (P:=λ c=>K.lookup t=some ⟨c,d,da,sl⟩->∃u vs d m sl,Value.ref t=.ref u∧K.lookup u=some ⟨.type "tuple",d,.seq (List.toArray vs) m,sl⟩∧gV (l.map Str.ofString) vs=true) c h λ c h=>
    D.VZ (P:=λ da=>K.lookup t=some ⟨.type c,d,da,sl⟩->∃u vs d m sl,Value.ref t=.ref u∧K.lookup u=some ⟨.type "tuple",d,.seq (List.toArray vs) m,sl⟩∧gV (l.map Str.ofString) vs=true) da (an h).2 λ vs n h2 e=>⟨t,vs.toList,d,n,sl,rfl,by rw[Array.toArray_toList];exact eq_of_beq (an h).1▸e,h2⟩) rfl
theorem Lo{W:Wd}{gt:List GE}{bl:List (Str×Value)}(hW:W.Ok)(hb:∀p∈bl,bootBuiltins p.1=some p.2∧p.1≠"__name__")(h:gtB W.K bl gt=true):wL W gt:=by
 have ent:∀(k:Nat) x v l,gt[k]? =some (x,v,l)->PW W.K v l=true∧pL W x v:=λ k x v l hk=>
  have g:=an (G3.mp h _ (B5 hk))
  ⟨g.1,iS (P:=λ o=>nsIn W.K mainGlobals x=o->pL W x v) _ g.2 (λ o h hv=>(N0.mp h).elim
   (λ h=>iS (P:=λ o=>nsIn W.K mainGlobals x=some o->pL W x v) o h (λ v' h hv=>.inl (mg_of hW.ID hW.g ((show v=v' from sZ h)▸hv))) hv)
   λ h=>by
    refine A0 (jP.mp (an h).2) λ p hZ=>?_;delta hZ hp q
    have hZ:=hb p hp;delta hZ b1 b2
    clear g hk;obtain rfl:p.1=x:=eq_of_beq (an q).1
    exact .inr ⟨mg_none_of hW.ID hW.g (SI (an h).1▸hv),(show p.2=v from sZ (an q).2)▸b1,b2⟩) rfl⟩
 exact⟨λ k x v l hk=>(ent k x v l hk).2,λ k x a hk=>MF (ent k x _ _ hk).1,λ k x v l hk hl=>SU (ent k x v l hk).1 hl⟩
def Bf(o:Option (Option Value))(v:Value):Bool:=OS o λ o=>OS o λ u=>IQ u v
theorem rP{o:Option (Option Value)}{v:Value}(h:Bf o v=true):o=some (some v):=iS (P:=λ o=>o=some (some v)) o h λ o h=>iS (P:=λ o=>some o=some (some v)) o h λ u h=>sZ h▸rfl
def Qp(o:Option (Option Value)):Bool:=OS o ON
theorem HA{o:Option (Option Value)}(h:Qp o=true):o=some none:=iS (P:=λ o=>o=some none) o h λ o h=>C7 some (SI h)
def Tr(o:Option Value)(s:String):Bool:=OS o λ v=>V.typ v λ t=>t==s
theorem NJ{o:Option Value}{s:String}(h:Tr o s=true):o=some (.type s):=iS (P:=λ o=>o=some (.type s)) o h λ v h=>V.FV (P:=λ v=>some v=some (.type s)) v h λ t h=>eq_of_beq h▸rfl
def Qd(K:Frag)(C:Addr)(p:String×Addr):Bool:=Bf (findIn K (.ref C) (Str.ofString p.1)) (.ref p.2)&&(Tr (typeIn K (.ref p.2)) "function"&&keepIn K (.ref p.2))
def Yd(K:Frag)(C:Addr):Bool:=Bf (findIn K (.ref C) "__getattribute__") (.builtin "object.__getattribute__")&&Qp (findIn K (.ref C) "__getattr__")
def Xx(K:Frag)(C:Addr)(f:String):Bool:=Qp (findIn K (.ref C) (Str.ofString f))
def Xy(K:Frag)(C:Addr):Bool:=Bf (findIn K (.ref C) "__getattribute__") (.builtin "object.__getattribute__")&&(Bf (findIn K (.ref C) "__setattr__") (.builtin "object.__setattr__")&&(hasDictIn K C&&plainOver K C))
def Jg(K:Frag)(tb:fM):Bool:=tb.meths.all (λ p=>Yd K p.1&&p.2.all (Qd K p.1))&&tb.Ds.all (λ p=>Xy K p.1&&p.2.all (Xx K p.1))
theorem iN{α:Type}:∀{l:List (Addr×α)} {f:Addr} {x:α},l.lookup f=some x->(f,x)∈l
 |(g,y)::r,f,x,h=>by
  rw[I1]at h
  by_cases e:f=g
  ·subst e;rw[O2]at h;cases h;exact .head _
  ·rw[beq_false_of_ne e]at h;exact .tail _ (iN h)
theorem Bw{W:Wd}{tb:fM}(h:Jg W.K tb=true):W.jL tb:=by
 refine⟨λ C f hf=>?_,λ C f a hf=>?_⟩
 ·obtain⟨l,e,hf⟩:∃l,tb.Ds.lookup C=some l∧l.contains f=true:=by
   unfold fM.fld at hf
   cases e:tb.Ds.lookup C with
   |none=>rw[e]at hf;cases hf
   |some l=>rw[e]at hf;exact⟨l,rfl,hf⟩
  have g:=an (G3.mp (an h).2 _ (iN e))
  have g2:=an (an g.1).2
  exact⟨rP (an g.1).1,rP g2.1,HA (G3.mp g.2 _ (jF.mp hf)),(an g2.2).1,(an g2.2).2⟩
 ·refine A0 (gJ.mp hf) λ l hZ=>?_;delta hZ e e2
  have g:=an (G3.mp (an h).1 _ (iN e))
  have g2:=an (G3.mp g.2 _ (eA e2))
  exact⟨rP (an g.1).1,HA (an g.1).2,rP g2.1,NJ (an g2.2).1,(an g2.2).2⟩
def QO(K:Frag)(C f:Addr):Bool:=makesIn K C&&(Bf (findIn K (.ref C) "__init__") (.ref f)&&Tr (typeIn K (.ref f)) "function")
theorem XQ{K:Frag}{C f:Addr}(h:QO K C f=true):Iv K C f:=⟨(an h).1,rP (an (an h).2).1,NJ (an (an h).2).2⟩
theorem BF{x:Str}{v:Value}:∀{l:List (Str×Value)},(l.map (·.1)).Nodup->(x,v)∈l->l.reverse.lookup x=some v:=by
 intro l nd h
 induction l with
 |nil=>cases h
 |cons p r ih=>
  rw[I6,N7]at nd
  rw[List.reverse_cons,vT]
  cases h with
  |head=>
   have:r.reverse.lookup x=none:=by
    cases e:r.reverse.lookup x with
    |none=>rfl
    |some u=>
     have:=mU e
     exact absurd (D2.mpr ⟨(x,u),List.mem_reverse.mp this,rfl⟩) nd.1
   rw[this];simp
  |tail _ h=>rw[ih nd.2 h];simp
structure Av(W:Wd)(sc:Scope)(fd:FuncData)(ps:List Str)(C D cc f2:Addr)(eF:Str):Prop where
 cl:fd.closure=[(("__class__":Str),cc)]
 cell:∃a b c,W.K.lookup cc=some ⟨a,b,.cell (some (.ref D)),c⟩
 XA:∀x∈sc.names,x.2≠.cell
 Yc:∃o cd,W.K.lookup D=some o∧o.data=.cls cd
 mro:mroIn W.K C (.ref D)=some true
 H2:ks_superIn W.K C D eF=some (some (.ref f2))
 ty:typeIn W.K (.ref f2)=some (.type "function")
 fn:fnIn W.K f2=true
 Vv:nsIn W.K mainGlobals "super"=some none
 u1:nsIn W.K cStatics "thirdparty.any"=some none
 ks:sc.names.lookup ("super":Str)=some .globalImplicit
 kc:sc.names.lookup ("__class__":Str)=some .free
 code:∃DL a b c vs file tf,fd.code=.ref DL∧W.K.lookup DL=some ⟨a,b,.fields vs,c⟩∧vs[2]? =some (.str file tf)∧((W.prog.main.file:Str)==file)=true
 top:(W.prog.main.scope.names.lookup ("super":Str)).isSome=false
 boot:bootBuiltins "super"=some (.type "super")
 self:∃ar r,fd.params.args=ar::r∧sc.names.lookup ar.arg=some .local∧ps[0]? =some ar.arg
 nat:(eF==("__class__":Str))=false
section
variable{W:Wd}{n:Nat}{A:Around}{s:Shared}{σ:PH}
theorem uO{env:Env}{c:Code}{ns:List (Option Str)}{st:Stmt}{rest:List Stmt}{f:TS}{ρ:List PV}{Q:Flow->Shared->Prop}{P:List PV->PH->Prop}(hs:Ex W n ns env st f)(rm:Rm n A)(S:SR W σ s.heap)(F:FR W ns ρ env σ s.heap)
  (h:f ρ σ λ fl O5 B9=>fl=.next∧P O5 B9)(hr:∀O5 B9 s',P O5 B9->SR W B9 s'.heap->FR W ns O5 env B9 s'.heap->IA env σ s.heap B9 s'.heap->Sm s s'->PySem.wpAt W.M A c (execs rest env) Q (λ _ _=>False) s'):
  PySem.wpAt W.M A c (execs (st::rest) env) Q (λ _ _=>False) s:=by
 refine ks_wpAt_execs_cons (PySem.wpAt_of_wpAny (I7 (hs A s ρ σ _ rm S F h) (λ f s' p=>?_) λ _ _ e=>e))
 intros p fl O5 B9 hZ;generalize hZ.1=P4;obtain rfl:=P4.1;delta P4 P4 q;delta hZ hZ r S' F' x m
 cases r
 exact hr O5 B9 s' q S' F' x m
set_option tactic.hygienic true in
theorem VT{env:Env}{ns:List (Option Str)}{L a:Addr}{fd:FuncData}{sc:Scope}{ps:List Str}{C D cc f2 dx x:Addr}{eF:Str}{p0 p1 ap pos ep:Pos}{es:List Expr}{g:T (List PV)}{body rest:List Stmt}{ρ:List PV}{Q:Flow->Shared->Prop}{P:PH->Prop}
  (hW:W.Ok)(he:env=callEnv fd L a)(x9:fd.scope=sc)(hk:sc.kind=.function)(hE:U5 env)(X:Av W sc fd ps C D cc f2 eF)(hf:∃b c d,W.K.lookup a=some ⟨b,c,.func fd,d⟩)(d6:fd.globals=mainGlobals)(fk:fd.builtins=builtinsNs)(a8:fd.params.posonlyargs=[])
  (hs:UW W n ns env es g)(hn:∀y:Str,ps[0]? =some y->ns[0]? =some (some y))(Xg:(ap.endLine==pos.line)=true)(hz:es.length<20)(rm:Rm n A)(S:SR W σ s.heap)(F:FR W ns ρ env σ s.heap)(h0:ρ[0]? =some (.ref x))(hx:σ x=some (.inst C dx))
  (h:g ρ σ λ xs B4=>UU W n (.ref f2) (.ref x::xs) B4 λ _ H6=>P H6)
  (hr:∀B9 s',P B9->SR W B9 s'.heap->FR W ns ρ env B9 s'.heap->IA env σ s.heap B9 s'.heap->Sm s s'->wpAny W.M A (execs rest env) Q (λ _ _=>False) s'):
  PySem.wpAt W.M A (.func body env) (execs (.Expr (.Call (.Attribute (.Call (.Name "super" p0) [] [] p1) eF ap) es [] pos) ep::rest) env) Q (λ _ _=>False) s:=by
 have KX:=hW.ID.keeps S.keep
 intros hf b1 b2 b3 d7
 refine ee4.e (X.code) λ DL c1 c2 c3 hZ=>?_;intros hZ vs file tf Q0;delta Q0 Ib TM Zw Hz
 refine ee2.e (X.self) λ ar r hZ=>?_;delta hZ Ic Lh De
 refine ee3.e (X.cell) λ k1 k2 k3 QS=>?_
 refine ee2.e (X.Yc) λ oD fp hD=>?_
 refine A0 (S.obj x _ hx) λ ob hZ=>?_;delta hZ e1 r1
 cases r1
 have Li:∀y,env.kindOf y=sc.names.lookup y:=λ y=>by rw[he,<-x9];rfl
 have i5:=KX _ _ hD.1
 have i4:=hD.2
 have yE:env.cells.lookup ("__class__":Str)=some cc:=by rw[he];show fd.closure.lookup _=_;rw[X.cl];rfl
 refine A0 (F.val) λ m hZ=>?_;delta hZ Bh hv
 refine A0 (hv 0 ar.arg (.ref x) (hn _ De) h0 (by intro q;cases q)) λ Oy hZ=>?_;delta hZ Po QQ
 have QQ:m ar.arg=some Oy:=by
  rcases QQ with⟨_,h⟩|⟨k,_⟩
  ·exact h
  ·rw[Li,Lh]at k;rcases k with k|k<;>cases k
 clear h0 hD hn De hv;cases Po
 refine ks_wpAt_execs_cons (ks_wpAt_Expr_any ?_ (QD hE) rfl)
 rw[arm_eval_Call]
 refine PySem.wpAt_bind (ks_wpAt_super_base (by rw[Li];exact X.ks) (by rw[Li];exact X.kc) X.nat (by rw[he];rfl) (KX _ _ d7) rfl (by rw[a8,Ic];rfl) (by rw[he];exact Ib) (KX _ _ TM) rfl Zw Hz X.top ?_)
 have Uc:env.scope.kind=.function:=hE.kind
 refine ks_loadName_global Uc (by rw[Li];exact X.ks) (loadGlobal_builtin (mg:=W.mg) (mb:=W.mb) (by rw[hE.glob];exact hW.g.keeps S.keep) (mg_none_of hW.ID hW.g X.Vv) (by rw[hE.blt];exact hW.b.keeps S.keep) ((hW.bi _ (by decide+kernel)).trans X.boot) ⟨rfl,?_⟩)
 refine wpAny_loadName_free Uc (by rw[Li];exact X.kc) yE ⟨_,KX _ _ QS,rfl⟩ ?_
 refine wpAny_loadName_local Uc (by rw[Li];exact Lh) Bh QQ ?_
 clear ep hE Ic QS TM Ib he Hz d7 Li Uc yE Lh Bh a8 QQ Zw k1 k2 k3 tf;obtain⟨hh,gg,d,t,os⟩:=s
 refine ks_wpAny_isType_cls i5 i4 ⟨rfl,?_⟩
 refine ks_wpAny_call_super i5 i4 e1 rfl (λ c e=>by cases e) (looks_mroIn KX X.mro) (λ h' e k=>?_)
 refine PySem.wpAt_of_wpAny (B6 (T9 ?_))
 have N5:=S.keeps k
 have VM:kC σ hh σ h':=.keeps k
 clear e1;obtain⟨Uo,hC⟩:∃Uo,clsIn W.K C=some Uo:=by
  have:=X.H2
  unfold ks_superIn at this
  cases q:clsIn W.K C with
  |none=>rw[q]at this;cases this
  |some cd=>exact⟨cd,rfl⟩
 have Qv:alongIn W.K eF ((Uo.mro.dropWhile (·!=.ref D)).drop 1)=some (some (.ref f2)):=by have:=X.H2;unfold ks_superIn at this;rw[hC]at this;exact this
 have xC:x≠C:=by
  clear e X;rintro rfl
  unfold clsIn at hC
  cases q:W.K.lookup x with
  |none=>rw[q]at hC;cases hC
  |some o=>
   have:=hW.ID _ _ q
   rw[S.new x (by rw[hx];simp)]at this;cases this
 obtain⟨of,y7,Wz⟩:∃of,h'.get? f2=some of∧of.cls=.type "function":=by
  have Kz:(W.K.lookup f2).map (·.cls)=some (.type "function"):=X.ty
  cases z:W.K.lookup f2 with
  |none=>rw[z]at Kz;cases Kz
  |some of=>rw[z]at Kz;exact⟨of,k _ _ (KX _ _ z),G8 Kz⟩
 have XT:methodCallForm (es.length+([]:List Keyword).length) (backTo pos (starEach es env)) (backToKw pos (keywordEach [] env))=true:=by
  have:(backTo pos (starEach es env)).all (λ x=>!x.1)=true:=by
   have:=hs.1
   unfold backTo
   rw[cS]
   rw[G3]at this ⊢
   intro x hx
   exact this x hx
  unfold methodCallForm
  rw[this]
  show(true&&(true&&decide (es.length+0+0<30)))=true
  simp;lia
 unfold methodCall
 rw[XT]
 have Yq:W.K.In h':=KX.keeps k
 refine B6 (K2 (ks_wpAny_getMethod_super e (looks_opaque Yq X.u1) (l₀:=Uo.mro) (λ A Q E s k q=>B6 ((looks_clsIn Yq hC) A _ E s k (D4 q))) rfl Yq Qv y7 Wz xC X.nat ?_))
 unfold methodCallPos
 rw[Xg]
 refine B6 (D4 ?_)
 have kp:=Q6 h' {cls:=.type "method",data:=.fields #[.ref f2,.ref x]}
 have hq:(h'.push {cls:=.type "method",data:=.fields #[.ref f2,.ref x]}).get? h'.objs.size=some (methodObj (.ref f2) (.ref x)):=N6 _ rfl
 have aR:=N5.keeps kp
 have Jd:kC σ hh σ (h'.push {cls:=.type "method",data:=.fields #[.ref f2,.ref x]}):=.keeps λ b o q=>kp b o (k b o q)
 have pM:=F.eN S Jd
 have nq:σ h'.objs.size=none:=N5.fresh (W7 (D7 _))
 have hp:(backTo pos (starEach es env)).any (·.1)=false:=by
  unfold backTo
  rw[nP]
  have:=hs.1
  rw[G3]at this
  rw[List.any_eq_false]
  intro x hx
  have:=this x hx
  simpa using this
 refine callWith_of (P:=MethP W.K h'.objs.size f2 (.ref x)) (by rw[hp];rfl) (λ hh Ym=>keeps_M X.fn hh Ym) (mJ hp ?_)
 refine I7 (hs.2 A ⟨h'.push {cls:=.type "method",data:=.fields #[.ref f2,.ref x]},gg,d,t+1,os⟩ ρ σ _ pos rm aR pM h) (λ vs aV p5=>?_) λ _ _ z=>z
 intros p5 xs R9 hZ;delta hZ MG u7 ST eK gS yH
 have a7:aV.heap.get? h'.objs.size=some (methodObj (.ref f2) (.ref x)):=(gS.bO _ _ hq nq).1
 refine⟨⟨a7,hW.ID.keeps eK.keep⟩,wpAny_call (method_call a7 (codeAny_mono (MG A aV (.ref x::vs) rm eK (.cons (.ref x) ST)) λ r LS p=>?_))⟩
 cases r with
 |error e=>exact p.elim
 |ok fl=>
  cases fl with
  |ret v=>
   intros p pv mW hZ;delta hZ GI Ce CM uN YJ
   have tt:=(Jd.trans gS).trans uN
   exact PySem.wpAt_of_wpAny (hr mW LS GI CM (F.eN S tt) (.of tt) (Sm.trans (s':=⟨h'.push {cls:=.type "method",data:=.fields #[.ref f2,.ref x]},gg,d,t+1,os⟩) ⟨_,t+1,rfl⟩ (yH.trans YJ)))
  |_=>exact p.elim
end
structure KP where
 p1:PS
 p2:PS
 p3:PS
 args:uM
 post:V0
def Jk(W:Wd)(tb:fM)(n:Nat)(p:KP)(C f2:Addr)(ρ:List PV)(σ:PH)(Q:PV->PH->Prop):Prop:=
 ws W tb n p.p1 ρ σ λ fl ρ σ=>fl=.next∧ws W tb n p.p2 ρ σ λ fl ρ σ=>fl=.next∧ws W tb n p.p3 ρ σ λ fl ρ σ=>fl=.next∧
  ∃x dx,ρ[0]? =some (.ref x)∧σ x=some (.inst C dx)∧DO W tb n p.args ρ σ λ xs σ=>UU W n (.ref f2) (.ref x::xs) σ λ _ σ=>S8 W tb n p.post ρ σ λ fl _ B9=>match fl with
   |.ret v=>Q v B9
   |.next=>Q .none B9
   |_=>False
section
variable{W:Wd}{n:Nat}{A:Around}{s:Shared}{σ:PH}
theorem VS{tb:fM}{gt:List GE}{a C D cc f2:Addr}{ps ls:List Str}{sc:Scope}{fd:FuncData}{p:KP}{args:List PV}{Q:PV->PH->Prop}{s1 s2 s3:Stmt}{post:List Stmt}{es:List Expr}{p0 p1 ap pos ep:Pos}{eF:Str}
  (hW:W.Ok)(hT:W.jL tb)(G:wL W gt)(H:Go W.K a ps [] ls (s1::s2::s3::.Expr (.Call (.Attribute (.Call (.Name "super" p0) [] [] p1) eF ap) es [] pos) ep::post) sc fd)(X:Av W sc fd ps C D cc f2 eF)
  (Hy:∀x∈ps,sc.names.lookup x=some .local)(m1:mS gt ((ps++ls).map some) sc.names p.p1 s1=true)(m2:mS gt ((ps++ls).map some) sc.names p.p2 s2=true)(m3:mS gt ((ps++ls).map some) sc.names p.p3 s3=true)
  (m4:Hn gt p.args ((ps++ls).map some) sc.names es=true)(m5:XI gt ((ps++ls).map some) sc.names p.post post=true)(Xg:(ap.endLine==pos.line)=true)(hz:es.length<20)
  (h1:args.length=ps.length)(h:Jk W tb n p C f2 (args++List.replicate ls.length .M7) σ Q):UU W (n+1) (.ref a) args σ Q:=λ A s vs rm S rv=>by
 refine ee3.e (H.obj) λ oc od Kd ho=>?_
 have KX:=hW.ID.keeps S.keep
 have hl:=rv.length
 have Nn:ps.Nodup:=(O8.mp H.nd).1
 have Ud:(([]:List Value)=[]∧fd.defaults=.none)∨∃t o n,fd.defaults=.ref t∧s.heap.get? t=some o∧o.data=.seq ([]:List Value).toArray n:=by
  rcases H.Um with⟨_,e⟩|⟨t,c,d,us,k,sl,e,ht,r⟩
  ·exact .inl ⟨rfl,e⟩
  ·cases r;exact .inr ⟨t,_,k,e,KX _ _ ht,rfl⟩
 have bt:=xJ (s:=s) (vs:=vs) (ds:=[]) H.po H.ar H.ko H.va H.kw Nn Ud (by lia) (by simp) (by simp;lia)
 simp only[List.drop_nil,C9]at bt
 have Zo:vs.length=ps.length:=by lia
 refine ks_codeAny_call_defAt rm.depth (KX _ _ ho) rfl (hW.nolimit.keeps S.keep) (codeRec_of KX H.code) H.body bt (by rw[H.scope];exact X.XA) (λ x hx=>by rw[H.scope];exact Hy x.1 (List.of_mem_zip hx).1) (λ mH Bh kp=>?_) (by rw[H.scope];exact H.Ik) (by rw[H.scope];exact H.gen) (by rw[H.scope];exact H.kind)
 generalize he:callEnv fd s.heap.objs.size a=env
 have YX:env.scope=sc:=by rw[<-he];exact H.scope
 have ZA:∀x,env.kindOf x=sc.names.lookup x:=λ x=>by unfold Env.kindOf;rw[YX]
 have Ul:env.cells=[(("__class__":Str),cc)]:=by rw[<-he];exact X.cl
 have eL:env.locals=s.heap.objs.size:=by rw[<-he];rfl
 have XB:∀x c,DK env x≠some c:=λ x c e=>by
  have h1:=mK e
  have h2:=NU e
  rw[Ul,cK,G0 h2]at h1
  simp at h1
 have hE:U5 env:=by
  refine⟨by rw[YX];exact H.kind,by rw[<-he];exact H.glob,by rw[<-he];exact H.blt,by rw[YX];exact H.gen,by rw[YX];exact H.Ik,λ x nx hk=>?_⟩
  rw[ZA]at hk
  rcases hk with k|k
  ·exact absurd rfl (X.XA _ (mem_of_lookupK k))
  ·exact absurd (H.nf _ (mem_of_lookupK k) rfl) nx
 have nL:s.heap.get? env.locals=none:=by rw[eL];exact W7 (D7 _)
 have F:FR W ((ps++ls).map some) (args++List.replicate ls.length .M7) env σ mH:=by
  refine⟨⟨_,by rw[eL];exact Bh,λ i x pv e1 e2 ne=>?_⟩,λ x c e=>absurd e (XB x c),λ x y c e _=>absurd e (XB x c),λ q hq=>?_,by simp[h1],oY H.nd⟩
  ·have Ry:=GS e1
   by_cases hi:i<ps.length
   ·rw[I4 hi]at Ry
    rw[I4 (by lia)]at e2
    refine A0 (rv.get e2) λ v hZ=>?_;delta hZ e3 r
    have mz:(x,v)∈ps.zip vs:=by
     have:(ps.zip vs)[i]? =some (x,v):=by rw[List.getElem?_zip_eq_some];exact⟨Ry,e3⟩
     exact B5 this
    have Tm:((ps.zip vs).map (·.1)).Nodup:=by
     rw[show(ps.zip vs).map (·.1)=ps from by rw[List.map_fst_zip (by lia)]];exact Nn
    exact⟨v,r.V7 (.keeps kp),.inl ⟨(ZA x).trans (Hy x (List.of_mem_zip mz).1),BF Tm mz⟩⟩
   ·rw[N2 (by lia),gM]at e2
    split at e2
    ·cases e2;exact absurd rfl ne
    ·cases e2
  ·have:s.heap.get? q=none:=by
    rcases hq with rfl|⟨x,e⟩
    ·exact nL
    ·exact absurd e (XB x q)
   exact⟨S.fresh this,S.fL this⟩
 have N5:=S.keeps kp
 have Pq:Rm n (A.deeper env):=rm.Yz.deeper hE
 have Qs:∀x,env.kindOf x=sc.names.lookup x:=ZA
 refine ks_wpAt_mono (Q:=λ f s'=>∃(fl:Fl) (B9:PH),(match fl with|.ret v=>Q v B9|.next=>Q .none B9|_=>False)∧Oh s'.heap fl f∧SR W B9 s'.heap∧kC σ s.heap B9 s'.heap∧Sm s s') (E:=λ _ _=>False) ?_ (λ f s' p=>?_) λ _ _ e=>e.elim
 ·have fin:∀(B9:PH) (h':Heap),IA env σ mH B9 h'->kC σ s.heap B9 h':=λ B9 h' x=>⟨λ b o e q=>x.bO b o (kp b o e) q (λ w=>by
   clear q;rcases w with rfl|⟨y,w⟩
   ·rw[nL]at e;cases e
   ·exact absurd w (XB y b)),x.IE⟩
  refine uO (s:={s with heap:=mH,toks:=_}) (QG hW hT G hE Qs _ _ m1) Pq N5 F h λ o6 aL t1 q1 S1 F1 x1 e1=>?_
  refine uO (QG hW hT G hE Qs _ _ m2) Pq S1 F1 q1 λ o5 W9 t2 q2 S2 F2 x2 e2=>?_
  refine uO (QG hW hT G hE Qs _ _ m3) Pq S2 F2 q2 λ dm Y9 t3 Vg S3 F3 x3 e3=>?_
  intros Vg x dx hZ;delta hZ g1 g2 q3
  clear F F1 F2 KX S S1 S2 N5 bt eL Ul ZA YX h h1 Ud hl Hy Bh kp Zo m1 m2 m3 nL XB Nn q1 q2 rm rv o6 o5;subst he
  refine VT (ns:=(ps++ls).map some) hW rfl H.scope H.kind hE X ⟨_,_,_,ho⟩ H.glob H.blt H.po (vS hW hT G p.args _ _ es m4 _ hE Qs) (λ y hy=>?_) Xg hz Pq S3 F3 g1 g2 q3 λ bM t4 q4 S4 F4 x4 e4=>?_
  ·rw[H9]
   have h0:0<ps.length:=(D3.mp hy).1
   rw[I4 h0,hy];rfl
  refine I7 (mD hW hT G hE Qs _ _ m5 _ t4 _ bM _ Pq S4 F4 q4) (λ f s' p=>?_) λ _ _ e=>e
  intros p fl O5 B9 hZ;delta hZ q r S5 F5 x5 e5
  exact⟨fl,B9,q,r,S5,fin _ _ ((((x1.trans x2).trans x3).trans x4).trans x5),(Sm.mk' s mH _).trans ((((e1.trans e2).trans e3).trans e4).trans e5)⟩
 ·intros p fl hZ;intros hZ B9 Q0;delta Q0 q r S' x m
  cases r with
  |next=>exact⟨.none,B9,q,.none,S',x,m⟩
  |ret r=>exact⟨_,B9,q,r,S',x,m⟩
  |_=>exact q.elim
end
def Wl(o:Option NameKind)(k:NameKind):Bool:=o==some k
def Sb(K:Frag)(prog:Program)(v:Value):Bool:=V.ref v λ c=>OS (K.lookup c) λ o=>D.fields o.data λ vs=>OS vs[2]? λ v=>V.str v λ file _=>(prog.main.file:Str)==file
theorem Fc{K:Frag}{prog:Program}{v:Value}(h:Sb K prog v=true):∃DL a b c vs file tf,v=.ref DL∧K.lookup DL=some ⟨a,b,.fields vs,c⟩∧vs[2]? =some (.str file tf)∧((prog.main.file:Str)==file)=true:=
 V.vB (P:=λ v=>∃DL a b c vs file tf,v=.ref DL∧K.lookup DL=some ⟨a,b,.fields vs,c⟩∧vs[2]? =some (.str file tf)∧((prog.main.file:Str)==file)=true) v h λ t h=>iS (P:=λ o=>K.lookup t=o->∃DL a b c vs file tf,Value.ref t=.ref DL∧K.lookup DL=some ⟨a,b,.fields vs,c⟩∧vs[2]? =some (.str file tf)∧((prog.main.file:Str)==file)=true) _ h (λ o=>match o with
  |⟨c,d,da,sl⟩=>λ h=>D.TQ (P:=λ da=>K.lookup t=some ⟨c,d,da,sl⟩->∃DL a b c vs file tf,Value.ref t=.ref DL∧K.lookup DL=some ⟨a,b,.fields vs,c⟩∧vs[2]? =some (.str file tf)∧((prog.main.file:Str)==file)=true) da h λ vs h e=>
   iS (P:=λ o=>vs[2]? =o->∃DL a b c vs file tf,Value.ref t=.ref DL∧K.lookup DL=some ⟨a,b,.fields vs,c⟩∧vs[2]? =some (.str file tf)∧((prog.main.file:Str)==file)=true) _ h (λ v h=>V.zO (P:=λ v=>vs[2]? =some v->∃DL a b c vs file tf,Value.ref t=.ref DL∧K.lookup DL=some ⟨a,b,.fields vs,c⟩∧vs[2]? =some (.str file tf)∧((prog.main.file:Str)==file)=true) v h
    λ file tf h e2=>⟨t,c,d,sl,vs,file,tf,rfl,e,e2,h⟩) rfl) rfl
def Sf(K:Frag)(cc D:Addr):Bool:=OS (K.lookup cc) λ o=>Mine.Internal.D.cell o.data λ v=>OS v λ v=>V.ref v λ d=>Nat.beq d D
theorem Fi{K:Frag}{cc D:Addr}(h:Sf K cc D=true):∃a b c,K.lookup cc=some ⟨a,b,.cell (some (.ref D)),c⟩:=iS (P:=λ o=>K.lookup cc=o->∃a b c,K.lookup cc=some ⟨a,b,.cell (some (.ref D)),c⟩) _ h (λ o=>match o with
  |⟨c,d,da,sl⟩=>λ h=>Mine.Internal.D.Fh (P:=λ da=>K.lookup cc=some ⟨c,d,da,sl⟩->∃a b c,K.lookup cc=some ⟨a,b,.cell (some (.ref D)),c⟩) da h λ v h=>iS (P:=λ v=>K.lookup cc=some ⟨c,d,.cell v,sl⟩->∃a b c,K.lookup cc=some ⟨a,b,.cell (some (.ref D)),c⟩) v h
   λ v h=>V.vB (P:=λ v=>K.lookup cc=some ⟨c,d,.cell (some v),sl⟩->∃a b c,K.lookup cc=some ⟨a,b,.cell (some (.ref D)),c⟩) v h λ x h e=>⟨c,d,sl,X9 h▸e⟩) rfl
def Sd(cl:List (Str×Addr))(cc:Addr):Bool:=L1 cl λ p=>p.1==("__class__":Str)&&Nat.beq p.2 cc
theorem Fg{cl:List (Str×Addr)}{cc:Addr}(h:Sd cl cc=true):cl=[(("__class__":Str),cc)]:=lN (P:=λ cl=>cl=[(("__class__":Str),cc)]) cl h λ p h=>C7 (·::[]) (kH (eq_of_beq (an h).1) (X9 (an h).2))
def PF(bd:List Stmt)(f:Stmt->Stmt->Stmt->List Expr->Pos->Pos->List Stmt->Bool):Bool:=LC bd λ s1 bd=>LC bd λ s2 bd=>LC bd λ s3 bd=>LC bd λ s post=>S.expr s λ e _=>E.call e λ g es ks pos=>LN ks&&E.attr g λ g eF ap=>eF==("__init__":Str)&&
 E.call g λ g a2 k2 _=>LN a2&&(LN k2&&E.name g λ nm _=>nm==("super":Str)&&f s1 s2 s3 es ap pos post)
theorem LV{P:List Stmt->Prop}{f:Stmt->Stmt->Stmt->List Expr->Pos->Pos->List Stmt->Bool}(bd:List Stmt)(h:PF bd f=true)
  (q:∀s1 s2 s3 p0 p1 ap es pos ep post,f s1 s2 s3 es ap pos post=true->P (s1::s2::s3::.Expr (.Call (.Attribute (.Call (.Name "super" p0) [] [] p1) "__init__" ap) es [] pos) ep::post)):P bd:=
 iT bd h λ s1 bd h=>iT (P:=λ bd=>P (s1::bd)) bd h λ s2 bd h=>iT (P:=λ bd=>P (s1::s2::bd)) bd h λ s3 bd h=>iT (P:=λ bd=>P (s1::s2::s3::bd)) bd h λ s post h=>
  S.RB (P:=λ s=>P (s1::s2::s3::s::post)) s h λ e ep h=>E.mM (P:=λ e=>P (s1::s2::s3::.Expr e ep::post)) e h λ g es ks pos h=>cR (P:=λ ks=>P (s1::s2::s3::.Expr (.Call g es ks pos) ep::post)) ks (an h).1<|
  E.zF (P:=λ g=>P (s1::s2::s3::.Expr (.Call g es [] pos) ep::post)) g (an h).2 λ g eF ap h=>E.mM (P:=λ g=>P (s1::s2::s3::.Expr (.Call (.Attribute g eF ap) es [] pos) ep::post)) g (an h).2 λ g a2 k2 p1 h2=>
  cR (P:=λ a2=>P (s1::s2::s3::.Expr (.Call (.Attribute (.Call g a2 k2 p1) eF ap) es [] pos) ep::post)) a2 (an h2).1<|cR (P:=λ k2=>P (s1::s2::s3::.Expr (.Call (.Attribute (.Call g [] k2 p1) eF ap) es [] pos) ep::post)) k2 (an (an h2).2).1<|
  E.cJ (P:=λ g=>P (s1::s2::s3::.Expr (.Call (.Attribute (.Call g [] [] p1) eF ap) es [] pos) ep::post)) g (an (an h2).2).2 λ nm p0 h3=>eq_of_beq (an h).1▸eq_of_beq (an h3).1▸q s1 s2 s3 p0 p1 ap es pos ep post (an h3).2
def Ml(K:Frag)(D:Addr):Bool:=(K.lookup D).any (·.data.ctorIdx==8)
theorem Ff{K:Frag}{D:Addr}(h:Ml K D=true):∃o cd,K.lookup D=some o∧o.data=.cls cd:=by
 unfold Ml at h
 cases q:K.lookup D with
 |none=>rw[q]at h;cases h
 |some o=>rw[q]at h;exact Data.cls.elim (motive:=λ d=>o.data=d->∃o' cd,some o=some o'∧o'.data=.cls cd) o.data (eq_of_beq h) (λ cd e=>⟨o,cd,rfl,e⟩) rfl
def Bz(K:Frag)(gt:List GE)(prog:Program)(a:Addr)(ps ls:List Str)(p:KP)(C D cc f2:Addr):Bool:=fnAt K a λ fd body=>Xv K fd ps [] ls&&(ps.all (λ x=>Wl (fd.scope.names.lookup x) .local)&&(Sd fd.closure cc&&(Sf K cc D&&(fd.scope.names.all (λ x=>x.2 !=.cell)&&
 (Ml K D&&(mroIn K C (.ref D)==some true&&(Bf (ks_superIn K C D "__init__") (.ref f2)&&(Tr (typeIn K (.ref f2)) "function"&&(fnIn K f2&&(Qp (nsIn K mainGlobals "super")&&(Qp (nsIn K cStatics "thirdparty.any")&&(Wl (fd.scope.names.lookup ("super":Str)) .globalImplicit&&
 (Wl (fd.scope.names.lookup ("__class__":Str)) .free&&(Sb K prog fd.code&&(!(prog.main.scope.names.lookup ("super":Str)).isSome&&(!ps.isEmpty&&PF body λ s1 s2 s3 es ap pos post=>mS gt ((ps++ls).map some) fd.scope.names p.p1 s1&&(mS gt ((ps++ls).map some) fd.scope.names p.p2 s2&&
 (mS gt ((ps++ls).map some) fd.scope.names p.p3 s3&&(Hn gt p.args ((ps++ls).map some) fd.scope.names es&&(XI gt ((ps++ls).map some) fd.scope.names p.post post&&(ap.endLine==pos.line&&decide (es.length<20))))))))))))))))))))))
theorem By{W:Wd}{n:Nat}{σ:PH}{tb:fM}{gt:List GE}{a C D cc f2:Addr}{ps ls:List Str}{p:KP}{args:List PV}{Q:PV->PH->Prop}(hW:W.Ok)(hT:W.jL tb)(G:wL W gt)(hb:bootBuiltins "super"=some (.type "super"))
  (h:Bz W.K gt W.prog a ps ls p C D cc f2=true)(h1:args.length=ps.length)(hq:Jk W tb n p C f2 (args++List.replicate ls.length .M7) σ Q):UU W (n+1) (.ref a) args σ Q:=
 QZ h λ fd body ho ay h=>
  have h2:=an (an h).2
  have h3:=an h2.2
  have h4:=an h3.2
  have h5:=an h4.2
  have h6:=an h5.2
  have h7:=an h6.2
  have h8:=an h7.2
  have h9:=an h8.2
  have Ln:=an h9.2
  have Rp:=an Ln.2
  have Ro:=an Rp.2
  have Rn:=an Ro.2
  have Rk:=an Rn.2
  have Rj:=an Rk.2
  have i7:=an Rj.2
  have Xp:=an i7.2
  have H:=YE (a:=a) (an h).1 ho ay
  have Hy:∀x∈ps,fd.scope.names.lookup x=some .local:=λ x hx=>eq_of_beq (G3.mp h2.1 x hx)
  have self:∃ar r,fd.params.args=ar::r∧fd.scope.names.lookup ar.arg=some .local∧ps[0]? =some ar.arg:=by
   have ar:=H.ar
   match ha:fd.params.args with
   |[]=>rw[ha]at ar;rw[<-ar]at Xp;exact(C5 Xp.1).elim
   |y::q=>rw[ha]at ar;exact⟨y,q,rfl,Hy _ (ar▸.head _),by rw[<-ar];rfl⟩
  have X:Av W fd.scope fd ps C D cc f2 "__init__":=⟨Fg h3.1,Fi h4.1,λ x hx=>bH.mp (G3.mp h5.1 x hx),Ff h6.1,eq_of_beq h7.1,rP h8.1,NJ h9.1,Ln.1,HA Rp.1,HA Ro.1,eq_of_beq Rn.1,eq_of_beq Rk.1,Fc Rj.1,AX i7.1,hb,self,by decide⟩
  LV (P:=λ bd=>Go W.K a ps [] ls bd fd.scope fd->UU W (n+1) (.ref a) args σ Q) body Xp.2 (λ s1 s2 s3 p0 p1 ap es pos ep post k H=>
   have k2:=an (an k).2
   have k3:=an k2.2
   have k4:=an k3.2
   have k5:=an k4.2
   have k6:=an k5.2
   VS hW hT G H X Hy (an k).1 k2.1 k3.1 k4.1 k5.1 k6.1 (D0 k6.2) h1 hq) H
def Kc:V0:=(.cons (.asg 1 (.list .nil)) (.cons (.asg 2 (.int 0)) (.cons (.asg 3 (.loc 0)) (.cons (.IB (.cmp .Gt (.loc 3) (.int 0)) (.cons (.ite (.cmp .Eq (.bin .BitAnd (.loc 3) (.int 1)) (.int 1)) (.cons (.expr (.H2 (.loc 1) "append" (.cons (.loc 2) .nil))) .nil) .nil) (.cons (.asg 3 (.bin .RShift (.loc 3) (.int 1))) (.cons (.asg 2 (.bin .Add (.loc 2) (.int 1))) .nil)))) (.cons (.ret (.loc 1)) .nil)))))
def JL:V0:=(.cons (.Q1 (.loc 0) "number" (.loc 1)) (.cons (.Q1 (.loc 0) "left" (.loc 2)) (.cons (.Q1 (.loc 0) "right" (.loc 3)) (.cons (.Q1 (.loc 0) "level_of" (.loc 4)) (.cons (.Q1 (.loc 0) "action" (.loc 5)) (.cons (.Q1 (.loc 0) "line" (.loc 6)) (.cons (.Q1 (.loc 0) "before" (.loc 7)) .nil)))))))
def AL:V0:=(.cons (.Q1 (.loc 0) "names" (.loc 1)) (.cons (.Q1 (.loc 0) "terminal_count" (.loc 2)) (.cons (.Q1 (.loc 0) "rules" (.loc 3)) (.cons (.Q1 (.loc 0) "levels" (.loc 4)) (.cons (.Q1 (.loc 0) "expect" (.loc 5)) (.cons (.Q1 (.loc 0) "start" (.loc 6)) (.cons (.Q1 (.loc 0) "by_left" (.comp (.list .nil) 0 (.attr (.loc 0) "names") (.bool true))) (.cons (.Q1 (.loc 0) "offsets" (.list .nil)) (.cons (.Q1 (.loc 0) "owners" (.list .nil)) (.cons (.R6 7 (.attr (.loc 0) "rules") (.cons (.expr (.H2 (.sub (.attr (.loc 0) "by_left") (.attr (.loc 7) "left")) "append" (.cons (.attr (.loc 7) "number") .nil))) (.cons (.expr (.H2 (.attr (.loc 0) "offsets") "append" (.cons (.call 1 (.builtin "len") (.cons (.attr (.loc 0) "owners") .nil)) .nil))) (.cons (.expr (.H2 (.attr (.loc 0) "owners") "extend" (.cons (.bin .Mult (.list (.cons (.attr (.loc 7) "number") .nil)) (.bin .Add (.call 1 (.builtin "len") (.cons (.attr (.loc 7) "right") .nil)) (.int 1))) .nil))) .nil)))) (.cons (.Q1 (.loc 0) "item_count" (.call 1 (.builtin "len") (.cons (.attr (.loc 0) "owners") .nil))) .nil)))))))))))
def lX:V0:=(.cons (.ret (.call 1 (.builtin "len") (.cons (.attr (.loc 0) "names") .nil))) .nil)
def nQ:V0:=(.cons (.ret (.cmp .Lt (.loc 1) (.attr (.loc 0) "terminal_count"))) .nil)
def rK:V0:=(.cons (.ret (.call 2 (.type "list") (.cons (.sub (.attr (.loc 0) "by_left") (.loc 1)) .nil))) .nil)
def AK:V0:=(.cons (.ret (.bin .Add (.sub (.attr (.loc 0) "offsets") (.loc 1)) (.loc 2))) .nil)
def tQ:V0:=(.cons (.ret (.sub (.attr (.loc 0) "owners") (.loc 1))) .nil)
def vI:V0:=(.cons (.ret (.bin .Sub (.loc 1) (.sub (.attr (.loc 0) "offsets") (.sub (.attr (.loc 0) "owners") (.loc 1))))) .nil)
def xX:V0:=(.cons (.asg 2 (.attr (.sub (.attr (.loc 0) "rules") (.sub (.attr (.loc 0) "owners") (.loc 1))) "right")) (.cons (.asg 3 (.bin .Sub (.loc 1) (.sub (.attr (.loc 0) "offsets") (.sub (.attr (.loc 0) "owners") (.loc 1))))) (.cons (.ret (.ite (.cmp .Lt (.loc 3) (.call 1 (.builtin "len") (.cons (.loc 2) .nil))) (.sub (.loc 2) (.loc 3)) (.neg (.int 1)))) .nil)))
def JD:V0:=(.cons (.asg 3 (.sub (.attr (.loc 0) "rules") (.loc 1))) (.cons (.asg 4 (.comp (.sub (.attr (.loc 0) "names") (.loc 5)) 0 (.attr (.loc 3) "right") (.bool true))) (.cons (.ite (.cmp .GtE (.loc 2) (.int 0)) (.cons (.expr (.H2 (.loc 4) "insert" (.cons (.loc 2) (.cons (.str ".") .nil)))) .nil) .nil) (.cons (.ret (.bin .Add (.bin .Add (.sub (.attr (.loc 0) "names") (.attr (.loc 3) "left")) (.str " : ")) (.H2 (.str " ") "join" (.cons (.loc 4) .nil)))) .nil))))
def xU:V0:=(.cons (.asg 2 (.neg (.int 1))) (.cons (.R6 3 (.loc 0) (.cons (.ite (.cmp .Lt (.loc 3) (.loc 1)) (.cons (.asg 2 (.loc 3)) .nil) .nil) .nil)) (.cons (.ret (.loc 2)) .nil)))
def xR:V0:=(.cons (.asg 2 (.list .nil)) (.cons (.rT [3,4] (.loc 0) (.cons (.ite (.or (.cmp .Eq (.loc 3) (.str "error")) (.cmp .In (.wQ (.loc 3) .absent (.int 1)) (.tup (.cons (.str "") (.cons (.str "$") (.cons (.str "'") .nil)))))) (.cons .any .nil) .nil) (.cons (.ite (.cmp .NotIn (.loc 3) (.loc 2)) (.cons (.expr (.H2 (.loc 2) "append" (.cons (.loc 3) .nil))) .nil) .nil) .nil))) (.cons (.asg 5 (.ite (.or (.cmp .IsNot (.loc 1) .none) (.cmp .Eq (.loc 2) (.list .nil))) (.loc 1) (.sub (.loc 2) (.int 0)))) (.cons (.ite (.cmp .NotIn (.loc 5) (.loc 2)) (.cons .any .nil) .nil) (.cons (.asg 6 (.call 2 (.type "list") (.cons (.gs 8 ["$end","error","$undefined"]) .nil))) (.cons (.rT [3,4] (.loc 0) (.cons (.R6 7 (.loc 4) (.cons (.ite (.and (.cmp .NotIn (.loc 7) (.loc 2)) (.cmp .NotIn (.loc 7) (.loc 6))) (.cons (.expr (.H2 (.loc 6) "append" (.cons (.loc 7) .nil))) .nil) .nil) .nil)) .nil)) (.cons (.asg 8 (.call 1 (.builtin "len") (.cons (.loc 6) .nil))) (.cons (.asg 6 (.bin .Add (.bin .Add (.loc 6) (.list (.cons (.str "$accept") .nil))) (.loc 2))) (.cons (.asg 9 (.list (.cons (.call 4 (.ref 99) (.cons (.int 0) (.cons (.loc 8) (.cons (.tup (.cons (.H2 (.loc 6) "index" (.cons (.loc 5) .nil)) (.cons (.gi 7 (0)) .nil))) (.cons (.gi 7 (0)) .nil))))) .nil))) (.cons (.rT [3,4] (.loc 0) (.cons (.asg 10 (.call 6 (.type "tuple") (.cons (.comp (.H2 (.loc 6) "index" (.cons (.loc 11) .nil)) 0 (.loc 4) (.bool true)) .nil))) (.cons (.expr (.H2 (.loc 9) "append" (.cons (.call 4 (.ref 99) (.cons (.call 1 (.builtin "len") (.cons (.loc 9) .nil)) (.cons (.H2 (.loc 6) "index" (.cons (.loc 3) .nil)) (.cons (.loc 10) (.cons (.call 5 (.ref 198) (.cons (.loc 10) (.cons (.loc 8) .nil))) .nil))))) .nil))) .nil))) (.cons (.ret (.call 3 (.ref 181) (.cons (.loc 6) (.cons (.loc 8) (.cons (.loc 9) (.cons .dP (.cons .none (.cons (.H2 (.loc 6) "index" (.cons (.loc 5) .nil)) .nil)))))))) .nil)))))))))))
def WQ:V0:=(.cons (.asg 2 (.call 2 (.type "list") (.cons (.loc 1) .nil))) (.cons (.asg 3 (.list .nil)) (.cons (.asg 4 (.comp (.list .nil) 0 (.loc 2) (.bool true))) (.cons (.asg 5 (.list .nil)) (.cons (.R6 6 (.attr (.loc 0) "rules") (.cons (.asg 7 (.int 0)) (.cons (.R6 8 (.attr (.loc 6) "right") (.cons (.ite (.not (.sub (.loc 2) (.loc 8))) (.cons (.asg 7 (.bin .Add (.loc 7) (.int 1))) (.cons (.expr (.H2 (.sub (.loc 4) (.loc 8)) "append" (.cons (.attr (.loc 6) "number") .nil))) .nil)) .nil) .nil)) (.cons (.expr (.H2 (.loc 3) "append" (.cons (.loc 7) .nil))) .nil)))) (.cons (.R6 6 (.attr (.loc 0) "rules") (.cons (.ite (.and (.cmp .Eq (.sub (.loc 3) (.attr (.loc 6) "number")) (.int 0)) (.not (.sub (.loc 2) (.attr (.loc 6) "left")))) (.cons (.aN (.loc 2) (.attr (.loc 6) "left") (.bool true)) (.cons (.expr (.H2 (.loc 5) "append" (.cons (.attr (.loc 6) "left") .nil))) .nil)) .nil) .nil)) (.cons (.asg 9 (.int 0)) (.cons (.IB (.cmp .Lt (.loc 9) (.call 1 (.builtin "len") (.cons (.loc 5) .nil))) (.cons (.R6 10 (.sub (.loc 4) (.sub (.loc 5) (.loc 9))) (.cons (.aN (.loc 3) (.loc 10) (.bin .Sub (.sub (.loc 3) (.loc 10)) (.int 1))) (.cons (.asg 11 (.attr (.sub (.attr (.loc 0) "rules") (.loc 10)) "left")) (.cons (.ite (.and (.cmp .Eq (.sub (.loc 3) (.loc 10)) (.int 0)) (.not (.sub (.loc 2) (.loc 11)))) (.cons (.aN (.loc 2) (.loc 11) (.bool true)) (.cons (.expr (.H2 (.loc 5) "append" (.cons (.loc 11) .nil))) .nil)) .nil) .nil)))) (.cons (.asg 9 (.bin .Add (.loc 9) (.int 1))) .nil))) (.cons (.ret (.loc 2)) .nil)))))))))
def MP:V0:=(.cons (.ret (.call 9 (.ref 209) (.cons (.loc 0) (.cons (.bin .Mult (.list (.cons (.bool false) .nil)) (.H2 (.loc 0) "symbol_count" .nil)) .nil)))) .nil)
def GL:V0:=(.cons (.asg 1 (.call 2 (.type "list") (.cons (.loc 0) .nil))) (.cons (.R6 2 (.call 10 (.type "range") (.cons (.call 1 (.builtin "len") (.cons (.loc 1) .nil)) .nil)) (.cons (.R6 3 (.call 10 (.type "range") (.cons (.call 1 (.builtin "len") (.cons (.loc 1) .nil)) .nil)) (.cons (.ite (.cmp .Eq (.bin .BitAnd (.bin .RShift (.sub (.loc 1) (.loc 3)) (.loc 2)) (.int 1)) (.int 1)) (.cons (.aN (.loc 1) (.loc 3) (.bin .BitOr (.sub (.loc 1) (.loc 3)) (.sub (.loc 1) (.loc 2)))) .nil) .nil) .nil)) .nil)) (.cons (.ret (.loc 1)) .nil)))
def AI:V0:=(.cons (.Q1 (.loc 0) "number" (.loc 1)) (.cons (.Q1 (.loc 0) "kernel" (.loc 2)) (.cons (.Q1 (.loc 0) "symbol" (.loc 3)) (.cons (.Q1 (.loc 0) "items" (.list .nil)) (.cons (.Q1 (.loc 0) "moves" .dP) (.cons (.Q1 (.loc 0) "reductions" (.list .nil)) .nil))))))
def AJ:V0:=(.cons (.ret (.H2 (.attr (.loc 0) "moves") "get" (.cons (.loc 1) (.cons (.gi 11 (-1)) .nil)))) .nil)
def DA:V0:=(.cons (.Q1 (.loc 0) "grammar" (.loc 1)) (.cons (.asg 2 (.bin .Mult (.list (.cons (.int 0) .nil)) (.H2 (.loc 1) "symbol_count" .nil))) (.cons (.R6 3 (.attr (.loc 1) "rules") (.cons (.ite (.cmp .Gt (.call 1 (.builtin "len") (.cons (.attr (.loc 3) "right") .nil)) (.int 0)) (.cons (.aN (.loc 2) (.attr (.loc 3) "left") (.bin .BitOr (.sub (.loc 2) (.attr (.loc 3) "left")) (.bin .LShift (.int 1) (.sub (.attr (.loc 3) "right") (.int 0))))) .nil) .nil) .nil)) (.cons (.Q1 (.loc 0) "firsts" (.call 12 (.ref 223) (.cons (.loc 2) .nil))) .nil))))
def xZ:V0:=(.cons (.asg 2 (.int 0)) (.cons (.R6 3 (.loc 1) (.cons (.asg 4 (.H2 (.attr (.loc 0) "grammar") "after" (.cons (.loc 3) .nil))) (.cons (.ite (.cmp .GtE (.loc 4) (.int 0)) (.cons (.asg 2 (.bin .BitOr (.bin .BitOr (.loc 2) (.bin .LShift (.int 1) (.loc 4))) (.sub (.attr (.loc 0) "firsts") (.loc 4)))) .nil) .nil) .nil))) (.cons (.ret (.loc 2)) .nil)))
def AN:V0:=(.cons (.asg 2 (.list .nil)) (.cons (.R6 3 (.call 14 (.ref 80) (.cons (.H2 (.loc 0) "wanted" (.cons (.loc 1) .nil)) .nil)) (.cons (.R6 4 (.H2 (.attr (.loc 0) "grammar") "rules_of" (.cons (.loc 3) .nil)) (.cons (.asg 5 (.H2 (.attr (.loc 0) "grammar") "item" (.cons (.loc 4) (.cons (.int 0) .nil)))) (.cons (.ite (.cmp .NotIn (.loc 5) (.loc 1)) (.cons (.expr (.H2 (.loc 2) "append" (.cons (.loc 5) .nil))) .nil) .nil) .nil))) .nil)) (.cons (.ret (.call 13 (.builtin "sorted") (.cons (.loc 2) .nil))) .nil)))
def AM:V0:=(.cons (.ret (.bin .Add (.call 13 (.builtin "sorted") (.cons (.loc 1) .nil)) (.H2 (.loc 0) "added" (.cons (.loc 1) .nil)))) .nil)
def MR:V0:=(.cons (.ret (.H2 (.loc 0) "item" (.cons (.H2 (.loc 0) "rule_of" (.cons (.loc 1) .nil)) (.cons (.bin .Add (.H2 (.loc 0) "dot_of" (.cons (.loc 1) .nil)) (.int 1)) .nil)))) .nil)
def vE:V0:=(.cons (.asg 2 .dP) (.cons (.R6 3 (.loc 1) (.cons (.asg 4 (.H2 (.loc 0) "after" (.cons (.loc 3) .nil))) (.cons (.ite (.cmp .GtE (.loc 4) (.int 0)) (.cons (.ite (.cmp .NotIn (.loc 4) (.loc 2)) (.cons (.aN (.loc 2) (.loc 4) (.list .nil)) .nil) .nil) (.cons (.expr (.H2 (.sub (.loc 2) (.loc 4)) "append" (.cons (.call 15 (.ref 307) (.cons (.loc 0) (.cons (.loc 3) .nil))) .nil))) .nil)) .nil) .nil))) (.cons (.asg 5 .dP) (.cons (.R6 4 (.call 13 (.builtin "sorted") (.cons (.loc 2) .nil)) (.cons (.aN (.loc 5) (.loc 4) (.call 6 (.type "tuple") (.cons (.call 13 (.builtin "sorted") (.cons (.sub (.loc 2) (.loc 4)) .nil)) .nil))) .nil)) (.cons (.ret (.loc 5)) .nil)))))
def vF:V0:=(.cons (.asg 2 (.list .nil)) (.cons (.R6 3 (.loc 1) (.cons (.ite (.and (.cmp .Lt (.H2 (.loc 0) "after" (.cons (.loc 3) .nil)) (.int 0)) (.cmp .NotEq (.H2 (.loc 0) "rule_of" (.cons (.loc 3) .nil)) (.int 0))) (.cons (.expr (.H2 (.loc 2) "append" (.cons (.H2 (.loc 0) "rule_of" (.cons (.loc 3) .nil)) .nil))) .nil) .nil) .nil)) (.cons (.ret (.call 13 (.builtin "sorted") (.cons (.loc 2) .nil))) .nil)))
def vK:V0:=(.cons (.Q1 (.loc 0) "grammar" (.loc 1)) (.cons (.Q1 (.loc 0) "states" (.loc 2)) .nil))
def vL:V0:=(.cons (.ret (.H2 (.sub (.attr (.loc 0) "states") (.loc 1)) "goto" (.cons (.loc 2) .nil))) .nil)
def AO:V0:=(.cons (.Q1 (.loc 0) "grammar" (.loc 1)) (.cons (.Q1 (.loc 0) "closer" (.call 16 (.ref 296) (.cons (.loc 1) .nil))) (.cons (.Q1 (.loc 0) "states" (.list .nil)) (.cons (.Q1 (.loc 0) "numbers" .dP) .nil))))
def qE:V0:=(.cons (.ite (.cmp .NotIn (.loc 1) (.attr (.loc 0) "numbers")) (.cons (.aN (.attr (.loc 0) "numbers") (.loc 1) (.call 1 (.builtin "len") (.cons (.attr (.loc 0) "states") .nil))) (.cons (.expr (.H2 (.attr (.loc 0) "states") "append" (.cons (.call 17 (.ref 254) (.cons (.call 1 (.builtin "len") (.cons (.attr (.loc 0) "states") .nil)) (.cons (.loc 1) (.cons (.loc 2) .nil)))) .nil))) .nil)) .nil) (.cons (.ret (.sub (.attr (.loc 0) "numbers") (.loc 1))) .nil))
def vJ:V0:=(.cons (.Q1 (.loc 1) "items" (.H2 (.attr (.loc 0) "closer") "close" (.cons (.attr (.loc 1) "kernel") .nil))) (.cons (.Q1 (.loc 1) "reductions" (.call 19 (.ref 321) (.cons (.attr (.loc 0) "grammar") (.cons (.attr (.loc 1) "items") .nil)))) (.cons (.asg 2 (.call 18 (.ref 314) (.cons (.attr (.loc 0) "grammar") (.cons (.attr (.loc 1) "items") .nil)))) (.cons (.R6 3 (.loc 2) (.cons (.aN (.attr (.loc 1) "moves") (.loc 3) (.H2 (.loc 0) "number_of" (.cons (.sub (.loc 2) (.loc 3)) (.cons (.loc 3) .nil)))) .nil)) .nil))))
def yA:V0:=(.cons (.expr (.H2 (.loc 0) "number_of" (.cons (.tup (.cons (.H2 (.attr (.loc 0) "grammar") "item" (.cons (.int 0) (.cons (.int 0) .nil))) .nil)) (.cons (.gi 11 (-1)) .nil)))) (.cons (.asg 1 (.int 0)) (.cons (.IB (.cmp .Lt (.loc 1) (.call 1 (.builtin "len") (.cons (.attr (.loc 0) "states") .nil))) (.cons (.expr (.H2 (.loc 0) "expand" (.cons (.sub (.attr (.loc 0) "states") (.loc 1)) .nil))) (.cons (.asg 1 (.bin .Add (.loc 1) (.int 1))) .nil))) (.cons (.ret (.call 20 (.ref 373) (.cons (.attr (.loc 0) "grammar") (.cons (.attr (.loc 0) "states") .nil)))) .nil))))
def Cj:V0:=(.cons (.ret (.H2 (.call 21 (.ref 415) (.cons (.loc 0) .nil)) "built" .nil)) .nil)
def TA:V0:=(.cons (.asg 3 (.call 2 (.type "list") (.cons (.loc 2) .nil))) (.cons (.asg 4 (.bin .Mult (.list (.cons (.int 0) .nil)) (.loc 0))) (.cons (.asg 5 (.bin .Add (.loc 0) (.int 1))) (.cons (.asg 6 (.list .nil)) (.cons (.R6 7 (.call 10 (.type "range") (.cons (.loc 0) .nil)) (.cons (.ite (.cmp .NotEq (.sub (.loc 4) (.loc 7)) (.int 0)) (.cons .cont .nil) .nil) (.cons (.expr (.H2 (.loc 6) "append" (.cons (.loc 7) .nil))) (.cons (.aN (.loc 4) (.loc 7) (.call 1 (.builtin "len") (.cons (.loc 6) .nil))) (.cons (.asg 8 (.list (.cons (.list (.cons (.loc 7) (.cons (.call 1 (.builtin "len") (.cons (.loc 6) .nil)) (.cons (.int 0) .nil)))) .nil))) (.cons (.IB (.loc 8) (.cons (.asg 9 (.sub (.loc 8) (.neg (.int 1)))) (.cons (.asg 10 (.sub (.loc 9) (.int 0))) (.cons (.ite (.cmp .Lt (.sub (.loc 9) (.int 2)) (.call 1 (.builtin "len") (.cons (.sub (.loc 1) (.loc 10)) .nil))) (.cons (.asg 11 (.sub (.sub (.loc 1) (.loc 10)) (.sub (.loc 9) (.int 2)))) (.cons (.ite (.cmp .Eq (.sub (.loc 4) (.loc 11)) (.int 0)) (.cons (.expr (.H2 (.loc 6) "append" (.cons (.loc 11) .nil))) (.cons (.aN (.loc 4) (.loc 11) (.call 1 (.builtin "len") (.cons (.loc 6) .nil))) (.cons (.expr (.H2 (.loc 8) "append" (.cons (.list (.cons (.loc 11) (.cons (.call 1 (.builtin "len") (.cons (.loc 6) .nil)) (.cons (.int 0) .nil)))) .nil))) (.cons .cont .nil)))) .nil) (.cons (.aN (.loc 9) (.int 2) (.bin .Add (.sub (.loc 9) (.int 2)) (.int 1))) (.cons (.ite (.cmp .Lt (.sub (.loc 4) (.loc 11)) (.sub (.loc 4) (.loc 10))) (.cons (.aN (.loc 4) (.loc 10) (.sub (.loc 4) (.loc 11))) .nil) .nil) (.cons (.aN (.loc 3) (.loc 10) (.bin .BitOr (.sub (.loc 3) (.loc 10)) (.sub (.loc 3) (.loc 11)))) (.cons .cont .nil)))))) .nil) (.cons (.expr (.H2 (.loc 8) "pop" .nil)) (.cons (.ite (.cmp .Eq (.sub (.loc 4) (.loc 10)) (.sub (.loc 9) (.int 1))) (.cons (.asg 12 (.neg (.int 1))) (.cons (.IB (.cmp .NotEq (.loc 12) (.loc 10)) (.cons (.asg 12 (.H2 (.loc 6) "pop" .nil)) (.cons (.aN (.loc 4) (.loc 12) (.loc 5)) (.cons (.aN (.loc 3) (.loc 12) (.sub (.loc 3) (.loc 10))) .nil)))) .nil)) .nil) .nil)))))) .nil)))))) (.cons (.ret (.loc 3)) .nil))))))
def tP:V0:=(.cons (.Q1 (.loc 0) "automaton" (.loc 1)) (.cons (.Q1 (.loc 0) "nullables" (.call 23 (.ref 216) (.cons (.attr (.loc 1) "grammar") .nil))) (.cons (.Q1 (.loc 0) "transitions" (.list .nil)) (.cons (.Q1 (.loc 0) "index" .dP) (.cons (.expr (.H2 (.loc 0) "number_transitions" .nil)) (.cons (.Q1 (.loc 0) "direct" (.list .nil)) (.cons (.Q1 (.loc 0) "reads" (.list .nil)) (.cons (.expr (.H2 (.loc 0) "find_reads" .nil)) (.cons (.Q1 (.loc 0) "includes" (.comp (.list .nil) 0 (.attr (.loc 0) "transitions") (.bool true))) (.cons (.Q1 (.loc 0) "turns" (.comp (.list .nil) 0 (.attr (.loc 0) "transitions") (.bool true))) (.cons (.Q1 (.loc 0) "lookback" .dP) (.cons (.expr (.H2 (.loc 0) "find_includes" .nil)) (.cons (.asg 2 (.call 1 (.builtin "len") (.cons (.attr (.loc 0) "transitions") .nil))) (.cons (.Q1 (.loc 0) "read_masks" (.call 22 (.ref 433) (.cons (.loc 2) (.cons (.attr (.loc 0) "reads") (.cons (.attr (.loc 0) "direct") .nil))))) (.cons (.Q1 (.loc 0) "follow_masks" (.call 22 (.ref 433) (.cons (.loc 2) (.cons (.attr (.loc 0) "includes") (.cons (.attr (.loc 0) "read_masks") .nil))))) (.cons (.Q1 (.loc 0) "masks" (.H2 (.loc 0) "joined_masks" .nil)) .nil))))))))))))))))
def eT:V0:=(.cons (.asg 1 (.attr (.attr (.loc 0) "automaton") "grammar")) (.cons (.R6 2 (.attr (.attr (.loc 0) "automaton") "states") (.cons (.R6 3 (.call 13 (.builtin "sorted") (.cons (.attr (.loc 2) "moves") .nil)) (.cons (.ite (.not (.H2 (.loc 1) "is_terminal" (.cons (.loc 3) .nil))) (.cons (.aN (.attr (.loc 0) "index") (.tup (.cons (.attr (.loc 2) "number") (.cons (.loc 3) .nil))) (.call 1 (.builtin "len") (.cons (.attr (.loc 0) "transitions") .nil))) (.cons (.expr (.H2 (.attr (.loc 0) "transitions") "append" (.cons (.tup (.cons (.attr (.loc 2) "number") (.cons (.loc 3) .nil))) .nil))) .nil)) .nil) .nil)) .nil)) .nil))
def lC:V0:=(.cons (.asg 1 (.attr (.attr (.loc 0) "automaton") "grammar")) (.cons (.rT [2,3] (.attr (.loc 0) "transitions") (.cons (.asg 4 (.H2 (.attr (.loc 0) "automaton") "goto" (.cons (.loc 2) (.cons (.loc 3) .nil)))) (.cons (.asg 5 (.int 0)) (.cons (.asg 6 (.list .nil)) (.cons (.asg 7 (.attr (.sub (.attr (.attr (.loc 0) "automaton") "states") (.loc 4)) "moves")) (.cons (.R6 8 (.call 13 (.builtin "sorted") (.cons (.loc 7) .nil)) (.cons (.ite (.H2 (.loc 1) "is_terminal" (.cons (.loc 8) .nil)) (.cons (.asg 5 (.bin .BitOr (.loc 5) (.bin .LShift (.int 1) (.loc 8)))) .nil) (.cons (.ite (.sub (.attr (.loc 0) "nullables") (.loc 8)) (.cons (.expr (.H2 (.loc 6) "append" (.cons (.sub (.attr (.loc 0) "index") (.tup (.cons (.loc 4) (.cons (.loc 8) .nil)))) .nil))) .nil) .nil) .nil)) .nil)) (.cons (.expr (.H2 (.attr (.loc 0) "direct") "append" (.cons (.loc 5) .nil))) (.cons (.expr (.H2 (.attr (.loc 0) "reads") "append" (.cons (.loc 6) .nil))) .nil)))))))) .nil))
def iJ:V0:=(.cons (.asg 1 (.attr (.attr (.loc 0) "automaton") "grammar")) (.cons (.R6 2 (.attr (.attr (.loc 0) "automaton") "states") (.cons (.R6 3 (.attr (.loc 2) "reductions") (.cons (.aN (.attr (.loc 0) "lookback") (.tup (.cons (.attr (.loc 2) "number") (.cons (.loc 3) .nil))) (.list .nil)) .nil)) .nil)) (.cons (.R6 4 (.call 10 (.type "range") (.cons (.call 1 (.builtin "len") (.cons (.attr (.loc 0) "transitions") .nil)) .nil)) (.cons (.pK [5,6] (.sub (.attr (.loc 0) "transitions") (.loc 4))) (.cons (.R6 3 (.H2 (.loc 1) "rules_of" (.cons (.loc 6) .nil)) (.cons (.asg 7 (.attr (.sub (.attr (.loc 1) "rules") (.loc 3)) "right")) (.cons (.asg 8 (.H2 (.loc 0) "open_ends" (.cons (.loc 7) .nil))) (.cons (.asg 9 (.loc 5)) (.cons (.R6 10 (.call 10 (.type "range") (.cons (.call 1 (.builtin "len") (.cons (.loc 7) .nil)) .nil)) (.cons (.asg 11 (.sub (.loc 7) (.loc 10))) (.cons (.ite (.and (.cmp .GtE (.loc 10) (.loc 8)) (.not (.H2 (.loc 1) "is_terminal" (.cons (.loc 11) .nil)))) (.cons (.asg 12 (.sub (.attr (.loc 0) "index") (.tup (.cons (.loc 9) (.cons (.loc 11) .nil))))) (.cons (.expr (.call 24 (.ref 501) (.cons (.sub (.attr (.loc 0) "includes") (.loc 12)) (.cons (.loc 4) .nil)))) (.cons (.ite (.cmp .Eq (.loc 10) (.int 0)) (.cons (.expr (.call 24 (.ref 501) (.cons (.sub (.attr (.loc 0) "turns") (.loc 12)) (.cons (.loc 4) .nil)))) .nil) .nil) .nil))) .nil) (.cons (.asg 9 (.H2 (.attr (.loc 0) "automaton") "goto" (.cons (.loc 9) (.cons (.loc 11) .nil)))) .nil)))) (.cons (.expr (.call 24 (.ref 501) (.cons (.sub (.attr (.loc 0) "lookback") (.tup (.cons (.loc 9) (.cons (.loc 3) .nil)))) (.cons (.loc 4) .nil)))) .nil)))))) .nil))) .nil)))
def lW:V0:=(.cons (.asg 2 (.call 1 (.builtin "len") (.cons (.loc 1) .nil))) (.cons (.IB (.and (.cmp .Gt (.loc 2) (.int 0)) (.sub (.attr (.loc 0) "nullables") (.sub (.loc 1) (.bin .Sub (.loc 2) (.int 1))))) (.cons (.asg 2 (.bin .Sub (.loc 2) (.int 1))) .nil)) (.cons (.ret (.call 25 (.builtin "max") (.cons (.bin .Sub (.loc 2) (.int 1)) (.cons (.int 0) .nil)))) .nil)))
def iZ:V0:=(.cons (.asg 1 .dP) (.cons (.R6 2 (.attr (.loc 0) "lookback") (.cons (.asg 3 (.int 0)) (.cons (.R6 4 (.sub (.attr (.loc 0) "lookback") (.loc 2)) (.cons (.asg 3 (.bin .BitOr (.loc 3) (.sub (.attr (.loc 0) "follow_masks") (.loc 4)))) .nil)) (.cons (.aN (.loc 1) (.loc 2) (.loc 3)) .nil)))) (.cons (.ret (.loc 1)) .nil)))
def MS:V0:=(.cons (.ite (.cmp .NotIn (.loc 1) (.loc 0)) (.cons (.expr (.H2 (.loc 0) "append" (.cons (.loc 1) .nil))) .nil) .nil) .nil)
def GP:V0:=(.cons (.ret (.attr (.call 26 (.ref 490) (.cons (.loc 0) .nil)) "masks")) .nil)
def CZ:V0:=(.cons (.Q1 (.loc 0) "names" (.loc 1)) (.cons (.Q1 (.loc 0) "terminal_count" (.loc 2)) (.cons (.Q1 (.loc 0) "lefts" (.loc 3)) (.cons (.Q1 (.loc 0) "lengths" (.loc 4)) (.cons (.Q1 (.loc 0) "befores" (.loc 5)) (.cons (.Q1 (.loc 0) "defaults" (.list .nil)) (.cons (.Q1 (.loc 0) "numbers" .dP) (.cons (.R6 6 (.call 10 (.type "range") (.cons (.loc 2) .nil)) (.cons (.aN (.attr (.loc 0) "numbers") (.sub (.loc 1) (.loc 6)) (.loc 6)) .nil)) .nil))))))))
def vH:V0:=(.cons (.ret (.sub (.attr (.loc 0) "defaults") (.loc 1))) .nil)
def CW:V0:=(.cons (.ite (.cmp .Eq (.loc 1) (.gi 29 (1048576))) (.cons (.ret (.str "accept")) .nil) .nil) (.cons (.ite (.cmp .Eq (.loc 1) (.gi 28 (-1048576))) (.cons (.ret (.str "error (nonassociative)")) .nil) .nil) (.cons (.ite (.cmp .Gt (.loc 1) (.int 0)) (.cons (.ret (.bin .Add (.str "shift, and go to state ") (.call 27 (.type "str") (.cons (.loc 1) .nil)))) .nil) .nil) (.cons (.ite (.cmp .Lt (.loc 1) (.int 0)) (.cons (.ret (.bin .Add (.bin .Add (.bin .Add (.bin .Add (.str "reduce using rule ") (.call 27 (.type "str") (.cons (.neg (.loc 1)) .nil))) (.str " (")) (.sub (.attr (.loc 0) "names") (.sub (.attr (.loc 0) "lefts") (.neg (.loc 1))))) (.str ")"))) .nil) .nil) (.cons (.ret (.str "error")) .nil)))))
def xY:V0:=(.cons (.Q1 (.loc 0) "state" (.loc 1)) (.cons (.Q1 (.loc 0) "terminal" (.loc 2)) (.cons (.Q1 (.loc 0) "way" (.loc 3)) (.cons (.Q1 (.loc 0) "rules" (.loc 4)) (.cons (.Q1 (.loc 0) "chosen" (.loc 5)) .nil)))))
def aW:KP:=⟨(.asg 8 (.comp (.attr (.loc 11) "left") 0 (.attr (.loc 1) "rules") (.bool true))),(.asg 9 (.comp (.call 1 (.builtin "len") (.cons (.attr (.loc 11) "right") .nil)) 0 (.attr (.loc 1) "rules") (.bool true))),(.asg 10 (.comp (.attr (.loc 11) "before") 0 (.attr (.loc 1) "rules") (.bool true))),(.cons (.attr (.loc 1) "names") (.cons (.attr (.loc 1) "terminal_count") (.cons (.loc 8) (.cons (.loc 9) (.cons (.loc 10) .nil))))),(.cons (.Q1 (.loc 0) "grammar" (.loc 1)) (.cons (.Q1 (.loc 0) "rows" (.loc 2)) (.cons (.Q1 (.loc 0) "gotos" (.loc 3)) (.cons (.Q1 (.loc 0) "defaults" (.loc 4)) (.cons (.Q1 (.loc 0) "conflicts" (.loc 5)) (.cons (.Q1 (.loc 0) "settled" (.loc 6)) (.cons (.Q1 (.loc 0) "mode" (.loc 7)) .nil)))))))⟩
def iY:V0:=(.cons (.ret (.call 1 (.builtin "len") (.cons (.attr (.loc 0) "rows") .nil))) .nil)
def lV:V0:=(.cons (.ret (.sub (.sub (.attr (.loc 0) "rows") (.loc 1)) (.loc 2))) .nil)
def rJ:V0:=(.cons (.ret (.H2 (.sub (.attr (.loc 0) "gotos") (.loc 1)) "get" (.cons (.loc 2) (.cons (.neg (.int 1)) .nil)))) .nil)
def WR:V0:=(.cons (.asg 3 (.H2 (.attr (.loc 0) "levels") "get" (.cons (.attr (.sub (.attr (.loc 0) "rules") (.loc 1)) "level_of") .nil))) (.cons (.asg 4 (.H2 (.attr (.loc 0) "levels") "get" (.cons (.loc 2) .nil))) (.cons (.ite (.or (.cmp .Is (.loc 3) .none) (.cmp .Is (.loc 4) .none)) (.cons (.ret .none) .nil) .nil) (.cons (.ite (.cmp .Gt (.sub (.loc 3) (.int 0)) (.sub (.loc 4) (.int 0))) (.cons (.ret (.str "reduce")) .nil) .nil) (.cons (.ite (.cmp .Lt (.sub (.loc 3) (.int 0)) (.sub (.loc 4) (.int 0))) (.cons (.ret (.str "shift")) .nil) .nil) (.cons (.ite (.cmp .Eq (.sub (.loc 4) (.int 1)) (.str "left")) (.cons (.ret (.str "reduce")) .nil) .nil) (.cons (.ite (.cmp .Eq (.sub (.loc 4) (.int 1)) (.str "right")) (.cons (.ret (.str "shift")) .nil) .nil) (.cons (.ite (.cmp .Eq (.sub (.loc 4) (.int 1)) (.str "nonassoc")) (.cons (.ret (.str "bar")) .nil) .nil) (.cons (.ret .none) .nil)))))))))
def xW:V0:=(.cons (.Q1 (.loc 0) "grammar" (.loc 1)) (.cons (.Q1 (.loc 0) "number" (.attr (.loc 2) "number")) (.cons (.Q1 (.loc 0) "shifts" .dP) (.cons (.Q1 (.loc 0) "gotos" .dP) (.cons (.R6 4 (.attr (.loc 2) "moves") (.cons (.ite (.cmp .Eq (.loc 4) (.gi 30 (0))) (.cons (.aN (.attr (.loc 0) "shifts") (.loc 4) (.gi 29 (1048576))) .nil) (.cons (.ite (.cmp .Lt (.loc 4) (.attr (.loc 1) "terminal_count")) (.cons (.aN (.attr (.loc 0) "shifts") (.loc 4) (.sub (.attr (.loc 2) "moves") (.loc 4))) .nil) (.cons (.aN (.attr (.loc 0) "gotos") (.loc 4) (.sub (.attr (.loc 2) "moves") (.loc 4))) .nil)) .nil)) .nil)) (.cons (.Q1 (.loc 0) "looks" (.list .nil)) (.cons (.R6 5 (.attr (.loc 2) "reductions") (.cons (.expr (.H2 (.attr (.loc 0) "looks") "append" (.cons (.list (.cons (.loc 5) (.cons (.H2 (.loc 3) "get" (.cons (.tup (.cons (.attr (.loc 2) "number") (.cons (.loc 5) .nil))) (.cons (.int 0) .nil))) .nil))) .nil))) .nil)) (.cons (.Q1 (.loc 0) "barred" (.int 0)) (.cons (.Q1 (.loc 0) "settled" (.list .nil)) .nil)))))))))
def jR:V0:=(.cons (.R6 1 (.attr (.loc 0) "looks") (.cons (.R6 2 (.call 14 (.ref 80) (.cons (.sub (.loc 1) (.int 1)) .nil)) (.cons (.asg 3 .none) (.cons (.ite (.cmp .In (.loc 2) (.attr (.loc 0) "shifts")) (.cons (.asg 3 (.call 31 (.ref 688) (.cons (.attr (.loc 0) "grammar") (.cons (.sub (.loc 1) (.int 0)) (.cons (.loc 2) .nil))))) .nil) .nil) (.cons (.ite (.cmp .IsNot (.loc 3) .none) (.cons (.expr (.H2 (.loc 0) "settle_one" (.cons (.loc 1) (.cons (.loc 2) (.cons (.loc 3) .nil))))) .nil) .nil) .nil)))) .nil)) .nil)
def AH:V0:=(.cons (.asg 1 (.bin .Mult (.list (.cons (.int 0) .nil)) (.attr (.attr (.loc 0) "grammar") "terminal_count"))) (.cons (.forR 2 (.attr (.loc 0) "looks") (.cons (.R6 3 (.call 14 (.ref 80) (.cons (.sub (.loc 2) (.int 1)) .nil)) (.cons (.aN (.loc 1) (.loc 3) (.neg (.sub (.loc 2) (.int 0)))) .nil)) .nil)) (.cons (.R6 3 (.attr (.loc 0) "shifts") (.cons (.aN (.loc 1) (.loc 3) (.sub (.attr (.loc 0) "shifts") (.loc 3))) .nil)) (.cons (.R6 3 (.call 14 (.ref 80) (.cons (.attr (.loc 0) "barred") .nil)) (.cons (.aN (.loc 1) (.loc 3) (.gi 28 (-1048576))) .nil)) (.cons (.ret (.loc 1)) .nil)))))
def oW:V0:=(.cons (.asg 2 (.list .nil)) (.cons (.R6 3 (.call 10 (.type "range") (.cons (.attr (.attr (.loc 0) "grammar") "terminal_count") .nil)) (.cons (.asg 4 (.comp (.sub (.loc 7) (.int 0)) 0 (.attr (.loc 0) "looks") (.bin .BitAnd (.sub (.loc 7) (.int 1)) (.bin .LShift (.int 1) (.loc 3))))) (.cons (.ite (.and (.loc 4) (.cmp .In (.loc 3) (.attr (.loc 0) "shifts"))) (.cons (.expr (.H2 (.loc 2) "append" (.cons (.call 32 (.ref 637) (.cons (.attr (.loc 0) "number") (.cons (.loc 3) (.cons (.str "shift/reduce") (.cons (.call 6 (.type "tuple") (.cons (.loc 4) .nil)) (.cons (.sub (.loc 1) (.loc 3)) .nil)))))) .nil))) .nil) .nil) (.cons (.R6 5 (.wQ (.loc 4) (.int 1) .absent) (.cons (.asg 6 (.tup (.cons (.sub (.loc 4) (.int 0)) (.cons (.loc 5) .nil)))) (.cons (.expr (.H2 (.loc 2) "append" (.cons (.call 32 (.ref 637) (.cons (.attr (.loc 0) "number") (.cons (.loc 3) (.cons (.str "reduce/reduce") (.cons (.loc 6) (.cons (.sub (.loc 1) (.loc 3)) .nil)))))) .nil))) .nil))) .nil)))) (.cons (.ret (.loc 2)) .nil)))
def GQ:V0:=(.cons (.ite (.cmp .Gt (.sub (.loc 0) (.gi 33 (1))) (.int 0)) (.cons (.ret (.int 0)) .nil) .nil) (.cons (.asg 1 .dP) (.cons (.R6 2 (.loc 0) (.cons (.ite (.KF .Lt .Lt (.gi 28 (-1048576)) (.loc 2) (.int 0)) (.cons (.aN (.loc 1) (.neg (.loc 2)) (.bin .Add (.H2 (.loc 1) "get" (.cons (.neg (.loc 2)) (.cons (.int 0) .nil))) (.int 1))) .nil) .nil) .nil)) (.cons (.asg 3 (.int 0)) (.cons (.R6 4 (.call 13 (.builtin "sorted") (.cons (.loc 1) .nil)) (.cons (.ite (.or (.cmp .Eq (.loc 3) (.int 0)) (.cmp .Gt (.sub (.loc 1) (.loc 4)) (.sub (.loc 1) (.loc 3)))) (.cons (.asg 3 (.loc 4)) .nil) .nil) .nil)) (.cons (.ret (.loc 3)) .nil))))))
def SX:V0:=(.cons (.ret (.comp (.ite (.cmp .Eq (.loc 2) (.neg (.loc 1))) (.int 0) (.loc 2)) 0 (.loc 0) (.bool true))) .nil)
def Kb:V0:=(.cons (.asg 4 (.list .nil)) (.cons (.asg 5 (.list .nil)) (.cons (.asg 6 (.list .nil)) (.cons (.asg 7 (.list .nil)) (.cons (.asg 8 (.list .nil)) (.cons (.R6 9 (.attr (.loc 0) "states") (.cons (.asg 10 (.call 37 (.ref 731) (.cons (.attr (.loc 0) "grammar") (.cons (.loc 9) (.cons (.loc 1) .nil))))) (.cons (.expr (.H2 (.loc 10) "settle_levels" .nil)) (.cons (.asg 11 (.H2 (.loc 10) "row" .nil)) (.cons (.expr (.H2 (.loc 7) "extend" (.cons (.H2 (.loc 10) "conflicts" (.cons (.loc 11) .nil)) .nil))) (.cons (.expr (.H2 (.loc 8) "extend" (.cons (.attr (.loc 10) "settled") .nil))) (.cons (.asg 12 (.int 0)) (.cons (.ite (.loc 2) (.cons (.asg 12 (.call 36 (.ref 742) (.cons (.loc 11) .nil))) .nil) .nil) (.cons (.ite (.cmp .NotEq (.loc 12) (.int 0)) (.cons (.asg 11 (.call 35 (.ref 747) (.cons (.loc 11) (.cons (.loc 12) .nil)))) .nil) .nil) (.cons (.expr (.H2 (.loc 4) "append" (.cons (.loc 11) .nil))) (.cons (.expr (.H2 (.loc 5) "append" (.cons (.attr (.loc 10) "gotos") .nil))) (.cons (.expr (.H2 (.loc 6) "append" (.cons (.loc 12) .nil))) .nil)))))))))))) (.cons (.ret (.call 34 (.ref 679) (.cons (.attr (.loc 0) "grammar") (.cons (.loc 4) (.cons (.loc 5) (.cons (.loc 6) (.cons (.loc 7) (.cons (.loc 8) (.cons (.loc 3) .nil))))))))) .nil)))))))
def CX:V0:=(.cons (.asg 2 (.call 41 (.ref 426) (.cons (.loc 0) .nil))) (.cons (.ret (.call 38 (.ref 777) (.cons (.call 39 (.ref 755) (.cons (.loc 2) (.cons (.call 40 (.ref 508) (.cons (.loc 2) .nil)) (.cons (.loc 1) (.cons (.str "lalr") .nil))))) .nil))) .nil))
def TB:V0:=(.cons (.asg 1 (.attr (.attr (.loc 0) "grammar") "expect")) (.cons (.ite (.cmp .IsNot (.loc 1) .none) (.cons (.pK [2,3] (.call 42 (.ref 770) (.cons (.loc 0) .nil))) (.cons (.ite (.cmp .Gt (.loc 3) (.int 0)) (.cons .any .nil) .nil) (.cons (.ite (.cmp .NotEq (.loc 2) (.loc 1)) (.cons .any .nil) .nil) .nil))) .nil) (.cons (.ret (.loc 0)) .nil)))
def JK:V0:=(.cons (.Q1 (.loc 0) "grammar" (.loc 1)) (.cons (.Q1 (.loc 0) "automaton" (.loc 2)) (.cons (.Q1 (.loc 0) "cores" (.loc 3)) (.cons (.Q1 (.loc 0) "masks" (.loc 4)) .nil))))
def xV:V0:=(.cons (.asg 2 (.call 2 (.type "list") (.cons (.sub (.attr (.loc 0) "cores") (.loc 1)) .nil))) (.cons (.ret (.bin .Add (.loc 2) (.call 13 (.builtin "sorted") (.cons (.comp (.loc 3) 0 (.attr (.sub (.attr (.attr (.loc 0) "automaton") "states") (.loc 1)) "items") (.cmp .NotIn (.loc 3) (.loc 2))) .nil)))) .nil))
def vG:V0:=(.cons (.asg 3 (.attr (.loc 0) "grammar")) (.cons (.asg 4 (.H2 (.loc 3) "rule_of" (.cons (.loc 2) .nil))) (.cons (.asg 5 (.bin .Add (.bin .Add (.call 27 (.type "str") (.cons (.loc 4) .nil)) (.str " ")) (.call 43 (.ref 191) (.cons (.loc 3) (.cons (.loc 4) (.cons (.H2 (.loc 3) "dot_of" (.cons (.loc 2) .nil)) .nil)))))) (.cons (.ite (.or (.cmp .Eq (.loc 4) (.int 0)) (.cmp .GtE (.H2 (.loc 3) "after" (.cons (.loc 2) .nil)) (.int 0))) (.cons (.ret (.loc 5)) .nil) .nil) (.cons (.asg 6 (.comp (.sub (.attr (.loc 3) "names") (.loc 7)) 0 (.call 14 (.ref 80) (.cons (.sub (.attr (.loc 0) "masks") (.tup (.cons (.loc 1) (.cons (.loc 4) .nil)))) .nil)) (.bool true))) (.cons (.ret (.bin .Add (.bin .Add (.bin .Add (.loc 5) (.str "  [")) (.H2 (.str ", ") "join" (.cons (.loc 6) .nil))) (.str "]"))) .nil))))))
def JJ:V0:=(.cons (.asg 1 (.call 41 (.ref 426) (.cons (.loc 0) .nil))) (.cons (.ret (.call 44 (.ref 811) (.cons (.loc 0) (.cons (.loc 1) (.cons (.comp (.attr (.loc 2) "kernel") 0 (.attr (.loc 1) "states") (.bool true)) (.cons (.call 40 (.ref 508) (.cons (.loc 1) .nil)) .nil)))))) .nil))
def CY:V0:=(.cons (.asg 2 (.list .nil)) (.cons (.asg 3 (.list .nil)) (.cons (.asg 4 (.list .nil)) (.cons (.R6 5 (.call 10 (.type "range") (.cons (.attr (.loc 0) "terminal_count") .nil)) (.cons (.asg 6 (.H2 (.loc 0) "explicit" (.cons (.loc 1) (.cons (.loc 5) .nil)))) (.cons (.asg 7 (.tup (.cons (.sub (.attr (.loc 0) "names") (.loc 5)) (.cons (.call 45 (.ref 613) (.cons (.loc 0) (.cons (.loc 6) .nil))) .nil)))) (.cons (.ite (.cmp .Eq (.loc 6) (.gi 28 (-1048576))) (.cons (.expr (.H2 (.loc 3) "append" (.cons (.loc 7) .nil))) .nil) (.cons (.ite (.cmp .Gt (.loc 6) (.int 0)) (.cons (.expr (.H2 (.loc 2) "append" (.cons (.loc 7) .nil))) .nil) (.cons (.ite (.cmp .Lt (.loc 6) (.int 0)) (.cons (.expr (.H2 (.loc 4) "append" (.cons (.loc 7) .nil))) .nil) .nil) .nil)) .nil)) (.cons (.R6 8 (.call 46 (.ref 834) (.cons (.loc 0) (.cons (.loc 1) (.cons (.loc 5) .nil)))) (.cons (.expr (.H2 (.loc 4) "append" (.cons (.tup (.cons (.sub (.attr (.loc 0) "names") (.loc 5)) (.cons (.bin .Add (.bin .Add (.str "[") (.call 45 (.ref 613) (.cons (.loc 0) (.cons (.neg (.loc 8)) .nil)))) (.str "]")) .nil))) .nil))) .nil)) .nil))))) (.cons (.ite (.cmp .NotEq (.H2 (.loc 0) "default" (.cons (.loc 1) .nil)) (.int 0)) (.cons (.expr (.H2 (.loc 4) "append" (.cons (.tup (.cons (.str "$default") (.cons (.call 45 (.ref 613) (.cons (.loc 0) (.cons (.neg (.H2 (.loc 0) "default" (.cons (.loc 1) .nil))) .nil))) .nil))) .nil))) .nil) .nil) (.cons (.ret (.bin .Add (.bin .Add (.loc 2) (.loc 3)) (.loc 4))) .nil))))))
def GO:V0:=(.cons (.asg 3 (.list .nil)) (.cons (.R6 4 (.attr (.loc 0) "conflicts") (.cons (.ite (.and (.cmp .Eq (.attr (.loc 4) "state") (.loc 1)) (.cmp .Eq (.attr (.loc 4) "terminal") (.loc 2))) (.cons (.R6 5 (.attr (.loc 4) "rules") (.cons (.ite (.and (.cmp .NotEq (.attr (.loc 4) "chosen") (.neg (.loc 5))) (.cmp .NotIn (.loc 5) (.loc 3))) (.cons (.expr (.H2 (.loc 3) "append" (.cons (.loc 5) .nil))) .nil) .nil) .nil)) .nil) .nil) .nil)) (.cons (.ret (.call 13 (.builtin "sorted") (.cons (.loc 3) .nil))) .nil)))
def JE:V0:=(.cons (.asg 1 (.int 0)) (.cons (.rT [2,3] (.loc 0) (.cons (.asg 1 (.call 25 (.builtin "max") (.cons (.loc 1) (.cons (.call 1 (.builtin "len") (.cons (.loc 2) .nil)) .nil)))) .nil)) (.cons (.ret (.comp (.bin .Add (.bin .Add (.bin .Add (.str "    ") (.H2 (.loc 4) "ljust" (.cons (.loc 1) .nil))) (.str "  ")) (.loc 5)) 2 (.loc 0) (.bool true))) .nil)))
def AF:V0:=(.cons (.asg 2 (.list .nil)) (.cons (.R6 3 (.attr (.loc 0) "settled") (.cons (.ite (.cmp .NotEq (.attr (.loc 3) "state") (.loc 1)) (.cons .cont .nil) .nil) (.cons (.asg 4 (.str "shift")) (.cons (.ite (.cmp .Eq (.attr (.loc 3) "chosen") (.gi 28 (-1048576))) (.cons (.asg 4 (.str "an error")) .nil) (.cons (.ite (.cmp .Lt (.attr (.loc 3) "chosen") (.int 0)) (.cons (.asg 4 (.str "reduce")) .nil) .nil) .nil)) (.cons (.asg 5 (.bin .Add (.bin .Add (.str "    Conflict between rule ") (.call 27 (.type "str") (.cons (.sub (.attr (.loc 3) "rules") (.int 0)) .nil))) (.str " and token "))) (.cons (.expr (.H2 (.loc 2) "append" (.cons (.bin .Add (.bin .Add (.bin .Add (.bin .Add (.loc 5) (.sub (.attr (.loc 0) "names") (.attr (.loc 3) "terminal"))) (.str " resolved as ")) (.loc 4)) (.str ".")) .nil))) .nil)))))) (.cons (.ret (.loc 2)) .nil)))
def GM:V0:=(.cons (.asg 3 (.list (.cons (.bin .Add (.str "State ") (.call 27 (.type "str") (.cons (.loc 2) .nil))) (.cons (.str "") .nil)))) (.cons (.R6 4 (.H2 (.loc 0) "items_of" (.cons (.loc 2) .nil)) (.cons (.expr (.H2 (.loc 3) "append" (.cons (.bin .Add (.str "    ") (.H2 (.loc 0) "show_item" (.cons (.loc 2) (.cons (.loc 4) .nil)))) .nil))) .nil)) (.cons (.asg 5 (.list .nil)) (.cons (.R6 6 (.call 10 (.type "range") (.cons (.attr (.loc 1) "terminal_count") (.cons (.call 1 (.builtin "len") (.cons (.attr (.loc 1) "names") .nil)) .nil))) (.cons (.asg 7 (.H2 (.loc 1) "goto" (.cons (.loc 2) (.cons (.loc 6) .nil)))) (.cons (.ite (.cmp .GtE (.loc 7) (.int 0)) (.cons (.expr (.H2 (.loc 5) "append" (.cons (.tup (.cons (.sub (.attr (.loc 1) "names") (.loc 6)) (.cons (.bin .Add (.str "go to state ") (.call 27 (.type "str") (.cons (.loc 7) .nil))) .nil))) .nil))) .nil) .nil) .nil))) (.cons (.R6 8 (.tup (.cons (.call 48 (.ref 839) (.cons (.call 49 (.ref 827) (.cons (.loc 1) (.cons (.loc 2) .nil))) .nil)) (.cons (.call 48 (.ref 839) (.cons (.loc 5) .nil)) (.cons (.call 47 (.ref 846) (.cons (.loc 1) (.cons (.loc 2) .nil))) .nil)))) (.cons (.ite (.cmp .NotEq (.loc 8) (.list .nil)) (.cons (.asg 3 (.bin .Add (.bin .Add (.loc 3) (.list (.cons (.str "") .nil))) (.loc 8))) .nil) .nil) .nil)) (.cons (.ret (.bin .Add (.loc 3) (.list (.cons (.str "") .nil)))) .nil))))))
def SY:V0:=(.cons (.asg 1 (.int 0)) (.cons (.R6 2 (.wQ (.loc 0) .absent (.int 24)) (.cons (.asg 1 (.bin .Add (.bin .Add (.bin .Add (.bin .Mult (.loc 1) (.int 1000003)) (.bin .Mult (.int 2) (.call 50 (.builtin "abs") (.cons (.loc 2) .nil)))) (.ite (.cmp .Lt (.loc 2) (.int 0)) (.int 1) (.int 0))) (.int 1))) .nil)) (.cons (.ret (.list (.cons (.loc 1) (.cons (.int 0) .nil)))) .nil)))
def MQ:V0:=(.cons (.aN (.loc 0) (.int 1) (.bin .Add (.sub (.loc 0) (.int 1)) (.int 1))) (.cons (.ite (.cmp .Gt (.sub (.loc 0) (.int 0)) (.int 0)) (.cons (.asg 2 (.bin .Mod (.sub (.loc 0) (.int 0)) (.loc 1))) (.cons (.aN (.loc 0) (.int 0) (.bin .FloorDiv (.sub (.loc 0) (.int 0)) (.loc 1))) (.cons (.ret (.loc 2)) .nil))) .nil) (.cons (.ret (.bin .Mod (.bin .Add (.bin .Mult (.sub (.loc 0) (.int 1)) (.sub (.loc 0) (.int 1))) (.int 1)) (.loc 1))) .nil)))
def JF:V0:=(.cons (.ret (.comp (.sub (.tup (.cons (.str "a") (.cons (.str "b") (.cons (.str "s") (.cons (.str "t") (.cons (.str "s") (.cons (.str "a") .nil))))))) (.call 51 (.ref 867) (.cons (.loc 0) (.cons (.int 6) .nil)))) 0 (.call 10 (.type "range") (.cons (.loc 1) .nil)) (.bool true))) .nil)
def JH:V0:=(.cons (.asg 1 (.call 51 (.ref 867) (.cons (.loc 0) (.cons (.int 2) .nil)))) (.cons (.asg 2 (.list (.cons (.tup (.cons (.str "s") (.cons (.call 52 (.ref 872) (.cons (.loc 0) (.cons (.bin .Add (.int 1) (.call 51 (.ref 867) (.cons (.loc 0) (.cons (.int 3) .nil)))) .nil))) .nil))) .nil))) (.cons (.expr (.H2 (.loc 2) "append" (.cons (.tup (.cons (.str "s") (.cons (.list (.cons (.sub (.tup (.cons (.str "a") (.cons (.str "b") .nil))) (.call 51 (.ref 867) (.cons (.loc 0) (.cons (.int 2) .nil)))) .nil)) .nil))) .nil))) (.cons (.expr (.H2 (.loc 2) "append" (.cons (.tup (.cons (.str "t") (.cons (.sub (.list (.cons (.list .nil) (.cons (.list (.cons (.str "a") .nil)) .nil))) (.call 51 (.ref 867) (.cons (.loc 0) (.cons (.int 2) .nil)))) .nil))) .nil))) (.cons (.R6 3 (.call 10 (.type "range") (.cons (.loc 1) .nil)) (.cons (.asg 4 (.sub (.tup (.cons (.str "s") (.cons (.str "t") .nil))) (.call 51 (.ref 867) (.cons (.loc 0) (.cons (.int 2) .nil))))) (.cons (.expr (.H2 (.loc 2) "append" (.cons (.tup (.cons (.loc 4) (.cons (.call 52 (.ref 872) (.cons (.loc 0) (.cons (.call 51 (.ref 867) (.cons (.loc 0) (.cons (.int 4) .nil))) .nil))) .nil))) .nil))) .nil))) (.cons (.ret (.loc 2)) .nil))))))
def JG:V0:=(.cons (.asg 1 (.list (.cons (.list .nil) .nil))) (.cons (.R6 2 (.loc 0) (.cons (.ite (.cmp .Eq (.loc 2) (.str "")) (.cons (.expr (.H2 (.loc 1) "append" (.cons (.list .nil) .nil))) .nil) (.cons (.expr (.H2 (.sub (.loc 1) (.neg (.int 1))) "append" (.cons (.H2 (.loc 2) "strip" .nil) .nil))) .nil)) .nil)) (.cons (.ret (.comp (.loc 3) 0 (.loc 1) (.cmp .NotEq (.loc 3) (.list .nil)))) .nil)))
def JI:V0:=(.cons (.asg 1 (.list .nil)) (.cons (.R6 2 (.loc 0) (.cons (.asg 3 (.H2 (.loc 2) "find" (.cons (.str "  ") .nil))) (.cons (.expr (.H2 (.loc 1) "append" (.cons (.tup (.cons (.wQ (.loc 2) .absent (.loc 3)) (.cons (.H2 (.wQ (.loc 2) (.loc 3) .absent) "strip" .nil) .nil))) .nil))) .nil))) (.cons (.ret (.loc 1)) .nil)))
def SZ:V0:=(.cons (.ite (.cmp .Eq (.loc 0) (.str "accept")) (.cons (.ret (.gi 29 (1048576))) .nil) .nil) (.cons (.ite (.H2 (.loc 0) "startswith" (.cons (.str "shift, and go to state ") .nil)) (.cons (.ret (.call 53 (.type "int") (.cons (.wQ (.loc 0) (.call 1 (.builtin "len") (.cons (.str "shift, and go to state ") .nil)) .absent) .nil))) .nil) .nil) (.cons (.ite (.H2 (.loc 0) "startswith" (.cons (.str "reduce using rule ") .nil)) (.cons (.ret (.bin .Sub (.int 0) (.call 53 (.type "int") (.cons (.sub (.H2 (.wQ (.loc 0) (.call 1 (.builtin "len") (.cons (.str "reduce using rule ") .nil)) .absent) "split" (.cons (.str " ") .nil)) (.int 0)) .nil)))) .nil) .nil) (.cons (.ret .none) .nil))))
def xT:V0:=(.cons (.pK [3,4] (.sub (.loc 0) (.loc 1))) (.cons (.ret (.H2 (.str " ") "join" (.cons (.bin .Add (.bin .Add (.bin .Add (.list (.cons (.call 27 (.type "str") (.cons (.loc 1) .nil)) (.cons (.loc 3) (.cons (.str ":") .nil)))) (.wQ (.loc 4) .absent (.loc 2))) (.list (.cons (.str ".") .nil))) (.wQ (.loc 4) (.loc 2) .absent)) .nil))) .nil))
def xS:V0:=(.cons (.asg 4 (.attr (.loc 0) "grammar")) (.cons (.asg 5 (.list .nil)) (.cons (.R6 6 (.attr (.sub (.attr (.attr (.loc 0) "automaton") "states") (.loc 2)) "items") (.cons (.pK [7,8] (.tup (.cons (.H2 (.loc 4) "rule_of" (.cons (.loc 6) .nil)) (.cons (.H2 (.loc 4) "dot_of" (.cons (.loc 6) .nil)) .nil)))) (.cons (.asg 9 (.call 54 (.ref 905) (.cons (.loc 1) (.cons (.loc 7) (.cons (.loc 8) .nil))))) (.cons (.ite (.and (.cmp .Gt (.loc 7) (.int 0)) (.cmp .Eq (.loc 8) (.call 1 (.builtin "len") (.cons (.sub (.sub (.loc 1) (.loc 7)) (.int 1)) .nil)))) (.cons (.asg 10 (.sub (.attr (.loc 0) "masks") (.tup (.cons (.loc 2) (.cons (.loc 7) .nil))))) (.cons (.asg 11 (.comp (.sub (.attr (.loc 4) "names") (.loc 12)) 0 (.call 10 (.type "range") (.cons (.attr (.loc 4) "terminal_count") .nil)) (.cmp .Eq (.bin .Mod (.bin .FloorDiv (.loc 10) (.bin .LShift (.int 1) (.loc 12))) (.int 2)) (.int 1)))) (.cons (.asg 9 (.bin .Add (.bin .Add (.bin .Add (.loc 9) (.str "  [")) (.H2 (.str ", ") "join" (.cons (.loc 11) .nil))) (.str "]"))) .nil))) .nil) (.cons (.expr (.H2 (.loc 5) "append" (.cons (.loc 9) .nil))) .nil))))) (.cons (.ret (.cmp .Eq (.call 13 (.builtin "sorted") (.cons (.loc 3) .nil)) (.call 13 (.builtin "sorted") (.cons (.loc 5) .nil)))) .nil))))
def AG:V0:=(.cons (.asg 3 (.comp (.loc 13) 2 (.loc 2) (.bool true))) (.cons (.asg 4 (.comp (.tup (.cons (.loc 13) (.cons (.call 55 (.ref 898) (.cons (.loc 14) .nil)) .nil))) 2 (.loc 2) (.and (.not (.H2 (.loc 14) "startswith" (.cons (.str "[") .nil))) (.cmp .NotEq (.loc 13) (.str "$default"))))) (.cons (.asg 5 (.comp (.tup (.cons (.loc 13) (.cons (.call 55 (.ref 898) (.cons (.wQ (.loc 14) (.int 1) (.neg (.int 1))) .nil)) .nil))) 2 (.loc 2) (.H2 (.loc 14) "startswith" (.cons (.str "[") .nil)))) (.cons (.asg 6 (.comp (.call 55 (.ref 898) (.cons (.loc 14) .nil)) 2 (.loc 2) (.cmp .Eq (.loc 13) (.str "$default")))) (.cons (.ite (.cmp .NotEq (.loc 6) (.ite (.cmp .Eq (.H2 (.loc 0) "default" (.cons (.loc 1) .nil)) (.int 0)) (.list .nil) (.list (.cons (.bin .Sub (.int 0) (.H2 (.loc 0) "default" (.cons (.loc 1) .nil))) .nil)))) (.cons (.ret (.bool false)) .nil) .nil) (.cons (.asg 7 (.list .nil)) (.cons (.R6 8 (.call 10 (.type "range") (.cons (.attr (.loc 0) "terminal_count") .nil)) (.cons (.ite (.cmp .NotEq (.H2 (.loc 0) "explicit" (.cons (.loc 1) (.cons (.loc 8) .nil))) (.int 0)) (.cons (.expr (.H2 (.loc 7) "append" (.cons (.tup (.cons (.sub (.attr (.loc 0) "names") (.loc 8)) (.cons (.H2 (.loc 0) "explicit" (.cons (.loc 1) (.cons (.loc 8) .nil))) .nil))) .nil))) .nil) .nil) .nil)) (.cons (.asg 9 (.list .nil)) (.cons (.R6 10 (.attr (.loc 0) "conflicts") (.cons (.R6 11 (.attr (.loc 10) "rules") (.cons (.asg 12 (.tup (.cons (.sub (.attr (.loc 0) "names") (.attr (.loc 10) "terminal")) (.cons (.bin .Sub (.int 0) (.loc 11)) .nil)))) (.cons (.ite (.and (.cmp .Eq (.attr (.loc 10) "state") (.loc 1)) (.and (.cmp .NotEq (.attr (.loc 10) "chosen") (.bin .Sub (.int 0) (.loc 11))) (.cmp .NotIn (.loc 12) (.loc 9)))) (.cons (.expr (.H2 (.loc 9) "append" (.cons (.loc 12) .nil))) .nil) .nil) .nil))) .nil)) (.cons (.ret (.and (.cmp .Eq (.call 13 (.builtin "sorted") (.cons (.loc 4) .nil)) (.call 13 (.builtin "sorted") (.cons (.loc 7) .nil))) (.and (.cmp .Eq (.call 13 (.builtin "sorted") (.cons (.loc 5) .nil)) (.call 13 (.builtin "sorted") (.cons (.loc 9) .nil))) (.cmp .Eq (.bin .Add (.bin .Add (.call 1 (.builtin "len") (.cons (.loc 4) .nil)) (.call 1 (.builtin "len") (.cons (.loc 5) .nil))) (.call 1 (.builtin "len") (.cons (.loc 6) .nil))) (.call 1 (.builtin "len") (.cons (.loc 3) .nil)))))) .nil))))))))))
def vD:V0:=(.cons (.asg 4 (.call 59 (.ref 884) (.cons (.call 60 (.ref 853) (.cons (.loc 0) (.cons (.loc 1) (.cons (.loc 3) .nil)))) .nil))) (.cons (.ite (.or (.cmp .Lt (.call 1 (.builtin "len") (.cons (.loc 4) .nil)) (.int 2)) (.or (.cmp .NotEq (.sub (.loc 4) (.int 0)) (.list (.cons (.bin .Add (.str "State ") (.call 27 (.type "str") (.cons (.loc 3) .nil))) .nil))) (.not (.call 58 (.ref 910) (.cons (.loc 0) (.cons (.loc 2) (.cons (.loc 3) (.cons (.sub (.loc 4) (.int 1)) .nil)))))))) (.cons (.ret (.bool false)) .nil) .nil) (.cons (.asg 5 (.list .nil)) (.cons (.asg 6 (.list .nil)) (.cons (.R6 7 (.wQ (.loc 4) (.int 2) .absent) (.cons (.rT [8,9] (.call 57 (.ref 891) (.cons (.loc 7) .nil)) (.cons (.ite (.H2 (.loc 9) "startswith" (.cons (.str "go to state ") .nil)) (.cons (.expr (.H2 (.loc 6) "append" (.cons (.tup (.cons (.loc 8) (.cons (.call 53 (.type "int") (.cons (.wQ (.loc 9) (.call 1 (.builtin "len") (.cons (.str "go to state ") .nil)) .absent) .nil)) .nil))) .nil))) .nil) (.cons (.expr (.H2 (.loc 5) "append" (.cons (.tup (.cons (.loc 8) (.cons (.loc 9) .nil))) .nil))) .nil)) .nil)) .nil)) (.cons (.asg 10 (.list .nil)) (.cons (.R6 11 (.call 10 (.type "range") (.cons (.attr (.loc 1) "terminal_count") (.cons (.call 1 (.builtin "len") (.cons (.attr (.loc 1) "names") .nil)) .nil))) (.cons (.ite (.cmp .GtE (.H2 (.loc 1) "goto" (.cons (.loc 3) (.cons (.loc 11) .nil))) (.int 0)) (.cons (.expr (.H2 (.loc 10) "append" (.cons (.tup (.cons (.sub (.attr (.loc 1) "names") (.loc 11)) (.cons (.H2 (.loc 1) "goto" (.cons (.loc 3) (.cons (.loc 11) .nil))) .nil))) .nil))) .nil) .nil) .nil)) (.cons (.ret (.and (.cmp .Eq (.call 13 (.builtin "sorted") (.cons (.loc 6) .nil)) (.call 13 (.builtin "sorted") (.cons (.loc 10) .nil))) (.call 56 (.ref 915) (.cons (.loc 1) (.cons (.loc 3) (.cons (.loc 5) .nil)))))) .nil))))))))
def Pv:V0:=(.cons (.asg 1 (.call 66 (.ref 860) (.cons (.loc 0) .nil))) (.cons (.asg 2 (.call 65 (.ref 879) (.cons (.loc 1) .nil))) (.cons (.asg 3 (.call 64 (.ref 204) (.cons (.comp (.tup (.cons (.loc 8) (.cons (.call 2 (.type "list") (.cons (.loc 9) .nil)) .nil))) 2 (.loc 2) (.bool true)) .nil))) (.cons (.asg 4 (.call 63 (.ref 763) (.cons (.loc 3) (.cons (.cmp .Eq (.call 51 (.ref 867) (.cons (.loc 1) (.cons (.int 2) .nil))) (.int 1)) .nil)))) (.cons (.asg 5 (.call 62 (.ref 820) (.cons (.loc 3) .nil))) (.cons (.asg 6 (.bin .Add (.list (.cons (.tup (.cons (.str "$accept") (.cons (.list (.cons (.str "s") (.cons (.str "$end") .nil))) .nil))) .nil)) (.loc 2))) (.cons (.R6 7 (.call 10 (.type "range") (.cons (.H2 (.loc 4) "state_count" .nil) .nil)) (.cons (.ite (.not (.call 61 (.ref 922) (.cons (.loc 5) (.cons (.loc 4) (.cons (.loc 6) (.cons (.loc 7) .nil)))))) (.cons (.ret (.bool false)) .nil) .nil) .nil)) (.cons (.ret (.cmp .Eq (.call 1 (.builtin "len") (.cons (.attr (.attr (.loc 5) "automaton") "states") .nil)) (.H2 (.loc 4) "state_count" .nil))) .nil))))))))
def gt:List GE:=[(Str.ofString "reversed",.type "reversed",[]),(Str.ofString "len",.builtin "len",[]),(Str.ofString "list",.type "list",[]),(Str.ofString "Grammar",.ref 181,[]),(Str.ofString "Rule",.ref 99,[]),(Str.ofString "last_terminal",.ref 198,[]),(Str.ofString "tuple",.type "tuple",[]),(Str.ofString "END_grammar",.int (0) 278,[]),(Str.ofString "OWN_TERMINALS",.ref 81,["$end","error","$undefined"]),(Str.ofString "spread",.ref 209,[]),(Str.ofString "range",.type "range",[]),(Str.ofString "NONE",.int (-1) 491,[]),(Str.ofString "transitive",.ref 223,[]),(Str.ofString "sorted",.builtin "sorted",[]),(Str.ofString "bits",.ref 80,[]),(Str.ofString "advanced",.ref 307,[]),(Str.ofString "Closer",.ref 296,[]),(Str.ofString "LrState",.ref 254,[]),(Str.ofString "kernels_behind",.ref 314,[]),(Str.ofString "complete_rules",.ref 321,[]),(Str.ofString "Automaton",.ref 373,[]),(Str.ofString "Builder",.ref 415,[]),(Str.ofString "digraph",.ref 433,[]),(Str.ofString "nullable",.ref 216,[]),(Str.ofString "add_once",.ref 501,[]),(Str.ofString "max",.builtin "max",[]),(Str.ofString "Lookaheads",.ref 490,[]),(Str.ofString "str",.type "str",[]),(Str.ofString "BARRED",.int (-1048576) 931,[]),(Str.ofString "ACCEPT",.int (1048576) 926,[]),(Str.ofString "END_tables",.int (0) 933,[]),(Str.ofString "settle",.ref 688,[]),(Str.ofString "Conflict",.ref 637,[]),(Str.ofString "ERROR",.int (1) 935,[]),(Str.ofString "ParseTables",.ref 679,[]),(Str.ofString "without",.ref 747,[]),(Str.ofString "default_of",.ref 742,[]),(Str.ofString "RowMaker",.ref 731,[]),(Str.ofString "checked",.ref 777,[]),(Str.ofString "fill",.ref 755,[]),(Str.ofString "lalr_masks",.ref 508,[]),(Str.ofString "build",.ref 426,[]),(Str.ofString "conflict_counts",.ref 770,[]),(Str.ofString "show_rule",.ref 191,[]),(Str.ofString "View",.ref 811,[]),(Str.ofString "show_action",.ref 613,[]),(Str.ofString "lost_rules",.ref 834,[]),(Str.ofString "show_settled",.ref 846,[]),(Str.ofString "show_rows",.ref 839,[]),(Str.ofString "action_rows",.ref 827,[]),(Str.ofString "abs",.builtin "abs",[]),(Str.ofString "_law_draw",.ref 867,[]),(Str.ofString "_law_right",.ref 872,[]),(Str.ofString "int",.type "int",[]),(Str.ofString "_law_item_text",.ref 905,[]),(Str.ofString "_law_act",.ref 898,[]),(Str.ofString "_law_row_fits",.ref 915,[]),(Str.ofString "_law_cells",.ref 891,[]),(Str.ofString "_law_items_fit",.ref 910,[]),(Str.ofString "_law_parts",.ref 884,[]),(Str.ofString "show_state",.ref 853,[]),(Str.ofString "_law_state_fits",.ref 922,[]),(Str.ofString "lalr_view",.ref 820,[]),(Str.ofString "lalr_tables",.ref 763,[]),(Str.ofString "plain_grammar",.ref 204,[]),(Str.ofString "_law_pairs",.ref 879,[]),(Str.ofString "_law_pen",.ref 860,[])]
def tb:fM:=⟨[(99,[]),(181,[("symbol_count",122),("is_terminal",129),("is_middle",136),("number",143),("rules_of",150),("item",157),("rule_of",164),("dot_of",171),("after",178)]),(254,[("goto",244),("is_consistent",251)]),(296,[("wanted",279),("added",286),("close",293)]),(373,[("goto",342),("walk",349),("path",356),("final_state",363),("transition_count",370)]),(415,[("number_of",398),("expand",405),("built",412)]),(490,[("number_transitions",452),("find_reads",459),("find_includes",466),("open_ends",473),("joined_masks",480),("sizes",487)]),(602,[("terminal",529),("left",536),("length",543),("before",550),("state_count",557),("explicit",564),("default",571),("goto",578),("action",585),("expected",592),("is_consistent",599)]),(637,[("told",634)]),(679,[("state_count",662),("explicit",669),("goto",676),("terminal",529),("left",536),("length",543),("before",550),("default",571),("action",585),("expected",592),("is_consistent",599)]),(731,[("settle_levels",709),("settle_one",716),("row",723),("conflicts",728)]),(811,[("items_of",796),("complete",803),("show_item",808)])],[(99,["number","left","right","level_of","action","line","before"]),(181,["names","terminal_count","rules","levels","expect","start","by_left","offsets","owners","item_count"]),(254,["number","kernel","symbol","items","moves","reductions"]),(296,["grammar","firsts"]),(373,["grammar","states"]),(415,["grammar","closer","states","numbers"]),(490,["automaton","nullables","transitions","index","direct","reads","includes","turns","lookback","read_masks","follow_masks","masks"]),(602,["names","terminal_count","lefts","lengths","befores","defaults","numbers"]),(637,["state","terminal","way","rules","chosen"]),(679,["grammar","rows","gotos","defaults","conflicts","settled","mode","names","terminal_count","lefts","lengths","befores","numbers"]),(731,["grammar","number","shifts","gotos","looks","barred","settled"]),(811,["grammar","automaton","cores","masks"])]⟩
def WL:O9:=⟨80,["mask"],[],["found","at","left"],Kc⟩
def xA:O9:=⟨96,["self","number","left","right","level_of","action","line","before"],[.int (-1),.none,.int (0),.int (0)],[],JL⟩
def oO:O9:=⟨115,["self","names","terminal_count","rules","levels","expect","start"],[],["rule"],AL⟩
def dY:O9:=⟨122,["self"],[],[],lX⟩
def eY:O9:=⟨129,["self","symbol"],[],[],nQ⟩
def iG:O9:=⟨150,["self","symbol"],[],[],rK⟩
def oN:O9:=⟨157,["self","rule","dot"],[],[],AK⟩
def jJ:O9:=⟨164,["self","item"],[],[],tQ⟩
def kW:O9:=⟨171,["self","item"],[],[],vI⟩
def nG:O9:=⟨178,["self","item"],[],["right","dot"],xX⟩
def wR:O9:=⟨191,["grammar","number","dot"],[.int (-1)],["rule","words"],JD⟩
def nB:O9:=⟨198,["right","terminal_count"],[],["found","symbol"],xU⟩
def mY:O9:=⟨204,["pairs","start"],[.none],["lefts","left","parts","begin","names","name","count","rules","right"],xR⟩
def IY:O9:=⟨209,["grammar","known"],[],["found","lacking","users","queue","rule","missing","symbol","at","number","left"],WQ⟩
def zY:O9:=⟨216,["grammar"],[],[],MP⟩
def tH:O9:=⟨223,["rows"],[],["found","middle","one"],GL⟩
def oL:O9:=⟨237,["self","number","kernel","symbol"],[],[],AI⟩
def oM:O9:=⟨244,["self","symbol"],[],[],AJ⟩
def qR:O9:=⟨272,["self","grammar"],[],["rows","rule"],DA⟩
def nJ:O9:=⟨279,["self","kernel"],[],["mask","item","symbol"],xZ⟩
def oQ:O9:=⟨286,["self","kernel"],[],["found","symbol","number","item"],AN⟩
def oP:O9:=⟨293,["self","kernel"],[],[],AM⟩
def AA:O9:=⟨307,["grammar","item"],[],[],MR⟩
def kR:O9:=⟨314,["grammar","items"],[],["found","item","symbol","ordered"],vE⟩
def kS:O9:=⟨321,["grammar","items"],[],["found","item"],vF⟩
def kY:O9:=⟨335,["self","grammar","states"],[],[],vK⟩
def kZ:O9:=⟨342,["self","state","symbol"],[],[],vL⟩
def oR:O9:=⟨391,["self","grammar"],[],[],AO⟩
def gO:O9:=⟨398,["self","kernel","symbol"],[],[],qE⟩
def kX:O9:=⟨405,["self","state"],[],["behind","symbol"],vJ⟩
def nK:O9:=⟨412,["self"],[],["at"],yA⟩
def PY:O9:=⟨426,["grammar"],[],[],Cj⟩
def EG:O9:=⟨433,["count","relation","masks"],[],["result","heights","done","pile","start","frames","frame","x","y","last"],TA⟩
def jI:O9:=⟨445,["self","automaton"],[],["count"],tP⟩
def aM:O9:=⟨452,["self"],[],["grammar","state","symbol"],eT⟩
def dN:O9:=⟨459,["self"],[],["grammar","state","symbol","goal","mask","row","moves","later"],lC⟩
def cF:O9:=⟨466,["self"],[],["grammar","state","rule","x","first","left","right","ends","at","spot","symbol","inner"],iJ⟩
def dX:O9:=⟨473,["self","right"],[],["spot"],lW⟩
def cQ:O9:=⟨480,["self"],[],["masks","pair","mask","x"],iZ⟩
def AB:O9:=⟨501,["row","number"],[],[],MS⟩
def tK:O9:=⟨508,["automaton"],[],[],GP⟩
def qQ:O9:=⟨522,["self","names","terminal_count","lefts","lengths","befores"],[],["number"],CZ⟩
def kU:O9:=⟨571,["self","state"],[],[],vH⟩
def qN:O9:=⟨613,["tables","number"],[],[],CW⟩
def nH:O9:=⟨627,["self","state","terminal","way","rules","chosen"],[],[],xY⟩
def cP:O9:=⟨662,["self"],[],[],iY⟩
def dW:O9:=⟨669,["self","state","terminal"],[],[],lV⟩
def iF:O9:=⟨676,["self","state","nonterminal"],[],[],rJ⟩
def IZ:O9:=⟨688,["grammar","rule","terminal"],[],["own","other"],WR⟩
def nF:O9:=⟨702,["self","grammar","state","masks"],[],["symbol","rule"],xW⟩
def cZ:O9:=⟨709,["self"],[],["look","terminal","way"],jR⟩
def oK:O9:=⟨723,["self"],[],["row","look","terminal"],AH⟩
def fS:O9:=⟨728,["self","row"],[],["found","terminal","rules","other","pair"],oW⟩
def tL:O9:=⟨742,["row"],[],["counts","number","best","rule"],GQ⟩
def ED:O9:=⟨747,["row","rule"],[],[],SX⟩
def WK:O9:=⟨755,["automaton","masks","with_defaults","mode"],[.str (Str.ofString "lalr")],["rows","gotos","defaults","conflicts","settled","state","maker","row","rule"],Kb⟩
def qO:O9:=⟨763,["grammar","with_defaults"],[.bool true],["automaton"],CX⟩
def EH:O9:=⟨777,["tables"],[],["wanted","shifts","reductions"],TB⟩
def wZ:O9:=⟨791,["self","grammar","automaton","cores","masks"],[],[],JK⟩
def nE:O9:=⟨796,["self","number"],[],["core"],xV⟩
def kT:O9:=⟨808,["self","number","item"],[],["grammar","rule","text","names"],vG⟩
def wY:O9:=⟨820,["grammar"],[],["automaton"],JJ⟩
def qP:O9:=⟨827,["tables","state"],[],["shifts","barred","reductions","terminal","told","pair","rule"],CY⟩
def tJ:O9:=⟨834,["tables","state","terminal"],[],["found","conflict","rule"],GO⟩
def wT:O9:=⟨839,["rows"],[],["wide","name","what"],JE⟩
def oH:O9:=⟨846,["tables","state"],[],["lines","conflict","way","head"],AF⟩
def tI:O9:=⟨853,["view","tables","state"],[],["lines","item","gotos","symbol","goal","part"],GM⟩
def EE:O9:=⟨860,["script"],[],["number","cell"],SY⟩
def zZ:O9:=⟨867,["pen","many"],[],["digit"],MQ⟩
def wU:O9:=⟨872,["pen","length"],[],[],JF⟩
def wW:O9:=⟨879,["pen"],[],["more","pairs","turn","left"],JH⟩
def wV:O9:=⟨884,["lines"],[],["parts","line"],JG⟩
def wX:O9:=⟨891,["part"],[],["cells","line","at"],JI⟩
def EF:O9:=⟨898,["what"],[],[],SZ⟩
def nA:O9:=⟨905,["pairs","number","dot"],[],["left","right"],xT⟩
def mZ:O9:=⟨910,["view","pairs","state","part"],[],["grammar","due","item","number","dot","shown","mask","names"],xS⟩
def oJ:O9:=⟨915,["tables","state","cells"],[],["names","plain","lost","common","due","terminal","due_lost","conflict","rule","pair"],AG⟩
def kQ:O9:=⟨922,["view","tables","pairs","state"],[],["parts","acts","goals","part","name","what","due_goals","symbol"],vD⟩
def He:O9:=⟨927,["script"],[],["pen","pairs","grammar","tables","view","own_rules","state"],Pv⟩
def rows:List O9:=[WL,xA,oO,dY,eY,iG,oN,jJ,kW,nG,wR,nB,mY,IY,zY,tH,oL,oM,qR,nJ,oQ,oP,AA,kR,kS,kY,kZ,oR,gO,kX,nK,PY,EG,jI,aM,dN,cF,dX,cQ,AB,tK,qQ,kU,qN,nH,cP,dW,iF,IZ,nF,cZ,oK,fS,tL,ED,WK,qO,EH,wZ,nE,kT,wY,qP,tJ,wT,oH,tI,EE,zZ,wU,wW,wV,wX,EF,nA,mZ,oJ,kQ,He]
def EV:List (Addr×Addr):=[(99,96),(181,115),(254,237),(296,272),(373,335),(415,391),(490,445),(637,627),(679,655),(731,702),(811,791)]
def blt:List (Str×Value):=[(Str.ofString "reversed",.type "reversed"),(Str.ofString "len",.builtin "len"),(Str.ofString "list",.type "list"),(Str.ofString "tuple",.type "tuple"),(Str.ofString "range",.type "range"),(Str.ofString "sorted",.builtin "sorted"),(Str.ofString "max",.builtin "max"),(Str.ofString "str",.type "str"),(Str.ofString "abs",.builtin "abs"),(Str.ofString "int",.type "int")]
def Ka(K:Frag)(prog:Program):Bool:=gtB K blt gt&&(Jg K tb&&(rows.all (O9.ok K gt)&&(EV.all (λ p=>QO K p.1 p.2)&&Bz K gt prog 655 [Str.ofString "self",Str.ofString "grammar",Str.ofString "rows",Str.ofString "gotos",Str.ofString "defaults",Str.ofString "conflicts",Str.ofString "settled",Str.ofString "mode"] [Str.ofString "lefts",Str.ofString "lengths",Str.ofString "befores"] aW 679 679 645 522)))
structure dR(W:Wd):Prop where
 ok:W.Ok
 all:Ka W.K W.prog=true
theorem Yg:(blt.all λ p=>(match bootBuiltins p.1 with|some v=>IQ v p.2|none=>false)&&p.1 !=("__name__":Str))=true:=by decide+kernel
set_option tactic.hygienic true in
theorem CC:∀p∈blt,bootBuiltins p.1=some p.2∧p.1≠"__name__":=λ p hp=>by
 have:=G3.mp Yg p hp
 simp only[W2,bH]at this
 delta this h h2
 split at h
 ·rename_i v e;exact⟨by rw[e,sZ h],h2⟩
 ·cases h
section
variable{W:Wd}(P:dR W)
include P
theorem dR.gt:wL W gt:=Lo P.ok CC (F0.mp P.all).1
theorem dR.tb:W.jL tb:=Bw (F0.mp (F0.mp P.all).2).1
theorem dR.rest:(rows.all (O9.ok W.K Mine.Internal.gt)&&(EV.all (λ p=>QO W.K p.1 p.2)&&Bz W.K Mine.Internal.gt W.prog 655 [Str.ofString "self",Str.ofString "grammar",Str.ofString "rows",Str.ofString "gotos",Str.ofString "defaults",Str.ofString "conflicts",Str.ofString "settled",Str.ofString "mode"] [Str.ofString "lefts",Str.ofString "lengths",Str.ofString "befores"] aW 679 679 645 522))=true:=(F0.mp (F0.mp P.all).2).2
theorem dR.j2(r:O9)(i:Nat)(h:rows[i]? =some r){n:Nat}{σ:PH}{args ρ:List PV}{Q:PV->PH->Prop}(hf:r.frame args=some ρ)(hq:Oa W Mine.Internal.tb n r.b ρ σ Q):KW W (n+1) (.ref r.a) args σ Q:=
 O9.call P.ok P.tb P.gt (G3.mp (F0.mp P.rest).1 r (B5 h)) hf hq
theorem dR.Uk(r:O9)(i:Nat)(h:rows[i]? =some r){n:Nat}{σ:PH}{args ρ:List PV}{Q:PV->PH->Prop}(hf:r.frame args=some ρ)(hq:Oa W Mine.Internal.tb n r.b ρ σ Q):UU W (n+1) (.ref r.a) args σ Q:=(P.j2 r i h hf hq).r7
theorem dR.fn(r:O9)(i:Nat)(h:rows[i]? =some r){n:Nat}{σ:PH}{args ρ:List PV}{Q:PV->PH->Prop}(hf:r.frame args=some ρ)(hq:Oa W Mine.Internal.tb n r.b ρ σ Q):J9 W (n+1) (.ref r.a) args σ Q:=(P.Uk r i h hf hq).ok
theorem dR.cls(i:Nat){C f:Addr}(h:EV[i]? =some (C,f)){n:Nat}{σ:PH}{args:List PV}{Q:PV->PH->Prop}
  (hq:∀x dx,x≠dx->σ x=none->σ dx=none->UU W n (.ref f) (.ref x::args) ((σ.set dx (.attrs C [])).set x (.inst C dx)) (λ v B9=>v=.none∧Q (.ref x) B9)):J9 W (n+1) (.ref C) args σ Q:=
 Mk P.ok (XQ (G3.mp (F0.mp (F0.mp P.rest).2).1 _ (B5 h))) hq
theorem dR.wI{n:Nat}{σ:PH}{args:List PV}{Q:PV->PH->Prop}(h1:args.length=8)(hq:Jk W Mine.Internal.tb n aW 679 522 (args++List.replicate 3 .M7) σ Q):UU W (n+1) (.ref 655) args σ Q:=
 By P.ok P.tb P.gt (by decide+kernel) (F0.mp (F0.mp P.rest).2).2 h1 hq
end
namespace Top
def sV(tb:String->Option Builtin)(p:Program)(w:World)(lF:Nat)(ann:Option Value):Nat->SharedT->Thread->Option SharedT
 |0,_,_=>none
 |n+1,s,t=>match through t with
  |true=>some s
  |false=>match stepOk lF ann t with
   |false=>none
   |true=>match stepT (denote tb) p w s t with
    |some (s',t')=>sV tb p w lF ann n s' t'
    |none=>none
theorem DS{tb:String->Option Builtin}{p:Program}{w:World}{lF:Nat}{ann:Option Value}{n:Nat}{s:SharedT}{t:Thread}:sV tb p w lF ann (n+1) s t=match through t with
  |true=>some s
  |false=>match stepOk lF ann t with
   |false=>none
   |true=>match stepT (denote tb) p w s t with
    |some (s',t')=>sV tb p w lF ann n s' t'
    |none=>none:=rfl
theorem sU{tb:String->Option Builtin}{p:Program}{w:World}{lF:Nat}{ann:Option Value}:∀{n:Nat} {s s':SharedT} {t:Thread},sV tb p w lF ann n s t=some s'->topRun tb p w lF ann n s.abs t=some s'.abs
 |0,_,_,_,h=>by cases h
 |n+1,s,s',t,h=>by
  rw[DS]at h
  unfold topRun
  cases he:through t with
  |true=>rw[he]at h;cases h;rfl
  |false=>
   rw[he]at h
   cases hk:stepOk lF ann t with
   |false=>rw[hk]at h;cases h
   |true=>
    rw[hk]at h
    cases hs:stepT (denote tb) p w s t with
    |none=>rw[hs]at h;cases h
    |some r=>obtain⟨fD,Jd⟩:=r;rw[hs]at h;rw[stepT_spec hs];exact sU h
def gU(tb:String->Option Builtin)(p:Program)(w:World)(lF:Nat)(ann:Option Value):Nat->SharedT->Thread->Option SharedT
 |0,_,_=>none
 |n+1,s,t=>match through t with
  |true=>some s
  |false=>match tw6613529449190102663 lF ann t with
   |false=>none
   |true=>match tw10156331382660048174 (tw11892475500146522536 tb) p w s t with
    |some (s',t')=>gU tb p w lF ann n s' t'
    |none=>none
theorem LQ:@gU=@sV:=by
 funext tb p w lF ann n
 induction n with
 |zero=>rfl
 |succ n ih=>
  funext s t
  rw[DS,<-ih,te6613529449190102663,te10156331382660048174,te11892475500146522536];rfl
def Zm:List Obj->Nat->BT->BT
 |[],_,t=>t
 |o::r,n,t=>Zm r (n+1) (t.ins n o)
def Sj(P:Params):BT:=Zm (boot_heap P).objs.toList 0 .nil
def s0(w:World)(os:OsState):SharedT:=⟨Sj w.params,11,{},#[],boot_drawn,boot_toks,os⟩
theorem Ju(w:World)(os:OsState):(s0 w os).abs=⟨boot_heap w.params,#[],boot_drawn,boot_toks,os⟩:=by kernel_rfl
abbrev pw:Program:=PySem.Challenge.pw_nn0417_01
def qv:Program:=view pw [71]
def lo:List Str:=pw.boundNames.filter λ n=>n !=("law":Str)
def mods:List Str:=importedModules pw.main.body
def Un(w:World)(s:Shared):Bool:=staticsOk mods (boot_heap w.params) s.heap&&namesBound pw s.heap&&gensDone s&&laidKept (boot_heap w.params) s.heap
end Top
namespace Top
theorem Mz:opening pw=plainProg pw.main.scope.names:=by kernel_rfl
theorem Gj(s:Shared):fenceModules? pw s=some s:=by kernel_rfl
theorem Wy(w:World):(fencedOpening treeTable pw w 7000).map (λ s=>(s.heap,s.gens,s.drawn,s.toks))=some (boot_heap w.params,Array.mk [],boot_drawn,boot_toks):=boot_open (p:=pw) (N:=7000) Mz (by decide) Gj w
theorem z1(w:World):(boot_heap w.params).isNs mainGlobals=true:=by kernel_rfl
theorem z2(w:World):(boot_heap w.params).objs.size=11:=by kernel_rfl
theorem z3(w:World):(boot_heap w.params).nsMap mainGlobals "__annotations__"=some (.ref 6):=by kernel_rfl
theorem LR{p:Program}{w:World}{H:Heap}{d:Drawn}{k lF:Nat}{os:OsState}{N:Nat}{ann:Option Value}{I2:Shared}(y1:H.isNs mainGlobals=true)(y2:H.objs.size=lF)(y3:H.nsMap mainGlobals "__annotations__"=ann)
  (r:topRun treeTable p w lF ann N ⟨H,#[],d,k,os⟩ (topStub p)=some I2)(c:(staticsOk (importedModules p.main.body) H I2.heap&&namesBound p I2.heap&&gensDone I2&&laidKept H I2.heap)=true):
  topFrom treeTable p w N ⟨H,#[],d,k,os⟩=some I2:=by
 subst y2 y3
 unfold topFrom
 dsimp only
 rw[y1,r]
 show(match(staticsOk (importedModules p.main.body) H I2.heap&&namesBound p I2.heap&&gensDone I2&&laidKept H I2.heap)with|true=>some I2|false=>none)=_
 rw[c]
theorem XL{p q:Program}{l m:List Str}{N:Nat}{Xt:Shared->Bool}{H:Params->Heap}{d:Drawn}{k lF:Nat}{ann:Option Value}{S:World->OsState->SharedT}
  (Wy:∀w:World,(fencedOpening treeTable p w N).map (λ s=>(s.heap,s.gens,s.drawn,s.toks))=some (H w.params,Array.mk [],d,k))
  (y1:∀w:World,(H w.params).isNs mainGlobals=true)(y2:∀w:World,(H w.params).objs.size=lF)(y3:∀w:World,(H w.params).nsMap mainGlobals "__annotations__"=ann)(hS:∀w os,(S w os).abs=⟨H w.params,#[],d,k,os⟩)(hm:m=importedModules p.main.body)
  (h:∀(w:World) (os:OsState),(gU tw14364793385576792824 p w lF ann N (S w os) (topStub p)).map (λ s=>((staticsOk m (H w.params) s.abs.heap&&namesBound p s.abs.heap&&gensDone s.abs&&laidKept (H w.params) s.abs.heap),tw4187177175401517315 q l m Xt true s.abs))=some (true,openGood q l)):
  LeftO p q l Xt (λ _=>()) (λ _=>()) N true:=λ w=>by
 subst hm
 refine A0 (O3.mp (Wy w)) ?_;intro hZ;obtain⟨hp,gs,d',k',os⟩:=hZ;intro hZ;delta hZ e e'
 obtain⟨rfl,rfl,rfl,rfl⟩:And (hp=H w.params) (And (gs=Array.mk []) (And (d'=d) (k'=k))):=by simpa using e'
 refine A0 (O3.mp (h w os)) λ s hZ=>?_;delta hZ e1 e2
 rw[LQ,<-te14364793385576792824]at e1
 rw[<-te4187177175401517315]at e2
 have e3:=sU e1
 rw[hS]at e3
 have hZ:=qF e2;delta hZ c1 c2
 have t:=LR (y1 w) (y2 w) (y3 w) e3 c1
 unfold openEnds
 rw[e]
 show(topFrom treeTable p w N _).map _=_
 rw[t]
 exact C7 some (kH c2 rfl)
theorem Cv{Xt:Shared->Bool}(h:∀(w:World) (os:OsState),(gU tw14364793385576792824 pw w 11 (some (.ref 6)) 7000 (s0 w os) (topStub pw)).map (λ s=>(Un w s.abs,tw4187177175401517315 qv lo mods Xt true s.abs))=some (true,openGood qv lo)):
  LeftO pw qv lo Xt (λ _=>()) (λ _=>()) 7000 true:=XL Wy z1 z2 z3 Ju rfl h
end Top
namespace Top
theorem Nd:(defOf qv "law").isSome=true:=by kernel_rfl
theorem Nc:pw.theDef "law"=(defOf qv "law").map (λ d=>(d.1.params,d.1.body,d.1.scope)):=by kernel_rfl
theorem Nb:((defOf qv "law").bind λ d=>kwWritten? d.1.params.kwonlyargs d.1.params.kw_defaults)=(defOf qv "law").map (·.2):=by kernel_rfl
theorem Sr:∃d Wj,defOf qv "law"=some (d,Wj)∧pw.theDef "law"=some (d.params,d.body,d.scope)∧kwWritten? d.params.kwonlyargs d.params.kw_defaults=some Wj:=by
 refine A0 (qW.mp Nd) ?_;intro hZ;obtain⟨d,k⟩:=hZ;intro e
 have e2:=Nc
 have e3:=Nb
 rw[e]at e2 e3
 exact⟨d,k,e,e2,e3⟩
def uD:List Obj->Nat->Frag
 |[],_=>[]
 |o::r,n=>match o.isFreed with
  |true=>uD r (n+1)
  |false=>(n,o)::uD r (n+1)
theorem Do{o:Obj}{r:List Obj}{n:Nat}:uD (o::r) n=match o.isFreed with
  |true=>uD r (n+1)
  |false=>(n,o)::uD r (n+1):=rfl
theorem JU:∀{l:List Obj} {n a:Nat} {o:Obj},(uD l n).lookup a=some o->n<=a∧l[a - n]? =some o∧o.isFreed=false
 |[],_,_,_,h=>by cases h
 |x::r,n,a,o,h=>by
  rw[Do]at h
  have next:(uD r (n+1)).lookup a=some o->n<=a∧(x::r)[a - n]? =some o∧o.isFreed=false:=λ h=>by
   have hZ:=JU h;delta hZ h1 h2 h3
   refine⟨hY h1,?_,h3⟩
   rw[show a - n=(a - (n+1))+1 from(Nat.succ_pred_eq_of_pos (Nat.sub_pos_of_lt h1)).symm,gN]
   exact h2
  cases hx:x.isFreed with
  |true=>rw[hx]at h;exact next h
  |false=>
   rw[hx]at h
   change List.lookup a ((n,x)::uD r (n+1))=some o at h
   rw[I1]at h
   cases hb:(a==n)with
   |true=>
    rw[hb]at h
    cases h
    have:a=n:=eq_of_beq hb
    subst this
    exact⟨D7 _,by rw[hU];rfl,hx⟩
   |false=>rw[hb]at h;exact next h
def lI(h:Heap):Frag:=uD h.objs.toList 0
theorem YB(h:Heap):(lI h).In h:=λ a o e=>by
 have hZ:=JU e;delta hZ hZ e2 e3
 rw[Nat.sub_zero,Array.getElem?_toList]at e2
 unfold Heap.get?
 rw[e2]
 obtain⟨c,d,dt,sl⟩:=o
 cases dt<;>first|rfl|cases e3
def Uq(s:Shared):Bool:=Ka (lI s.heap) pw&&(((lI s.heap).lookup sysModules).isSome&&Bf (nsIn (lI s.heap) mainGlobals "law") (.ref 927))
def Su(_:Str->Option Value)(h:Heap):Prop:=∃K:Frag,Ka K pw=true∧((K.lookup sysModules).isSome&&Bf (nsIn K mainGlobals "law") (.ref 927))=true∧K.In h
theorem bj(s:Shared)(h:Uq s=true):Su (s.heap.nsMap mainGlobals) s.heap:=⟨_,(F0.mp h).1,(F0.mp h).2,YB _⟩
theorem Xh(mg:Str->Option Value)(h h':Heap)(x:Su mg h)(k:∀b o,h.get? b=some o->h'.get? b=some o):Su mg h':=let⟨K,a,b,c⟩:=x;⟨K,a,b,c.keeps k⟩
end Top
namespace Top
def X1(s:Shared):Bool:=gtB (lI s.heap) blt gt&&(Jg (lI s.heap) tb&&(rows.take 8).all (O9.ok (lI s.heap) gt))
def X2(s:Shared):Bool:=((rows.drop 8).take 45).all (O9.ok (lI s.heap) gt)
def X3(s:Shared):Bool:=(((rows.drop 8).drop 45).all (O9.ok (lI s.heap) gt)&&(EV.all (λ p=>QO (lI s.heap) p.1 p.2)&&Bz (lI s.heap) gt pw 655 [Str.ofString "self",Str.ofString "grammar",Str.ofString "rows",Str.ofString "gotos",Str.ofString "defaults",Str.ofString "conflicts",Str.ofString "settled",Str.ofString "mode"] [Str.ofString "lefts",Str.ofString "lengths",Str.ofString "befores"] aW 679 679 645 522))&&(((lI s.heap).lookup sysModules).isSome&&Bf (nsIn (lI s.heap) mainGlobals "law") (.ref 927))
theorem SG{α:Type}{p:α->Bool}{l:List α}{n:Nat}(h1:(l.take n).all p=true)(h2:(l.drop n).all p=true):l.all p=true:=by
 rw[<-List.take_append_drop n l,List.all_append,h1,h2];rfl
theorem xt{a b c d e f g:Bool}(h1:(a&&(b&&c))=true)(h2:((d&&e)&&f)=true)(h3:c=true->d=true->g=true):((a&&(b&&(g&&e)))&&f)=true:=tt (tt (an h1).1 (tt (an (an h1).2).1 (tt (h3 (an (an h1).2).2 (an (an h2).1).1) (an (an h2).1).2))) (an h2).2
theorem q9{s:Shared}(h1:X1 s=true)(h2:(X2 s&&X3 s)=true):Uq s=true:=xt h1 (an h2).2 λ h3 h4=>SG h3 (SG (an h2).1 h4)
theorem Rv{r:Option SharedT}{c:Shared->Bool}{q:Program}{l m:List Str}{X Y Z:Shared->Bool}{g:Seen×(Option Str×List (Str×Value))×Bool×Bool×(List (Option FnShape)×Bool)×List (Option PlainShape)×List (Option (PlainShape×Bool))×(List (Option FnShape)×Bool)×List (Option (List (Option FnShape)×Bool)×Option (PlainShape×Bool))}
  (e1:r.map (λ s=>(c s.abs,tw4187177175401517315 q l m (λ _=>true) true s.abs))=some (true,g))(e2:r.map (λ s=>Y s.abs)=some true)(e3:r.map (λ s=>Z s.abs)=some true)(h:∀{s},Y s=true->Z s=true->X s=true):
  r.map (λ s=>(c s.abs,tw4187177175401517315 q l m X true s.abs))=some (true,g):=by
 cases r with
 |none=>cases e2
 |some s=>
  rw[<-e1]
  have x:=h (G8 e2) (G8 e3)
  show some (c s.abs,tw4187177175401517315 q l m X true s.abs)=some (c s.abs,tw4187177175401517315 q l m (λ _=>true) true s.abs)
  unfold tw4187177175401517315
  rw[x]
theorem cj:∀(w:World) (os:OsState),(gU tw14364793385576792824 pw w 11 (some (.ref 6)) 7000 (s0 w os) (topStub pw)).map (λ s=>(Un w s.abs,tw4187177175401517315 qv lo mods (λ _=>true) true s.abs))=some (true,openGood qv lo):=by
 intro w os;kernel_rfl
theorem Rx:∀(w:World) (os:OsState),(gU tw14364793385576792824 pw w 11 (some (.ref 6)) 7000 (s0 w os) (topStub pw)).map (λ s=>X1 s.abs)=some true:=by
 intro w os;kernel_rfl
theorem ce:∀(w:World) (os:OsState),(gU tw14364793385576792824 pw w 11 (some (.ref 6)) 7000 (s0 w os) (topStub pw)).map (λ s=>X2 s.abs)=some true:=by
 intro w os;kernel_rfl
theorem bx:∀(w:World) (os:OsState),(gU tw14364793385576792824 pw w 11 (some (.ref 6)) 7000 (s0 w os) (topStub pw)).map (λ s=>X3 s.abs)=some true:=by
 intro w os;kernel_rfl
theorem Lv{r:Option SharedT}{X Y:Shared->Bool}(e1:r.map (λ s=>X s.abs)=some true)(e2:r.map (λ s=>Y s.abs)=some true):r.map (λ s=>X s.abs&&Y s.abs)=some true:=by
 cases r with
 |none=>cases e1
 |some s=>exact C7 some (tt (G8 e1) (G8 e2))
theorem ev(w:World)(os:OsState):(gU tw14364793385576792824 pw w 11 (some (.ref 6)) 7000 (s0 w os) (topStub pw)).map (λ s=>(Un w s.abs,tw4187177175401517315 qv lo mods Uq true s.abs))=some (true,openGood qv lo):=Rv (c:=Un w) (Z:=λ s=>X2 s&&X3 s) (cj w os) (Rx w os) (Lv (ce w os) (bx w os)) q9
theorem Yk:(chainsOk qv&&opensWell pw&&(frees PySem.Challenge.rw_nn0417_01.row.toRowW&&PySem.Challenge.rw_nn0417_01.row.within.isEmpty))=true:=by kernel_rfl
theorem Nf:pw.bare:=⟨rfl,rfl,rfl,rfl,rfl,by decide+kernel⟩
theorem My:PySem.Challenge.rw_nn0417_01.row.toRowW.promised:=by w_witness2
set_option maxHeartbeats 0 in
theorem Mx:PySem.Challenge.rw_nn0417_01.wellSaid=true:=by
 delta OpenLaw.wellSaid
 iterate 18 refine look_both ?_ (by decide+kernel)
 delta OpenRow.wellSaid
 iterate 2 refine look_both ?_ (by decide+kernel)
 delta OpenRow.partSaid
 iterate 13 refine look_both ?_ (by decide+kernel)
 delta looksOpen
 iterate 5 refine look_both ?_ (by decide+kernel)
 decide+kernel
end Top
namespace Top
theorem Na:importsNone qv=true:=by kernel_rfl
theorem II{h:Heap}:∀{vs:List Value} {ns:List Int},IntsAre vs ns->bP h (ns.map .int) vs
 |_,_,x=>by
  induction x with
  |nil=>exact .nil
  |cons _ t _ ih=>exact .cons (.int _ t) ih
theorem Pz{w:World}{VQ:Shared}{mg mb:Str->Option Value}{h:Heap}{K:Frag}{a:Addr}{vs:List Value}{ns:List Int}(G:Ground qv lo [] Su w VQ mg mb h)(ID:K.In h)(sm:(K.lookup sysModules).isSome=true)(hL:h.IsList a vs.toArray)(hI:IntsAre vs ns)(hz:ns.length<=2^20):
  Wd.Ok ⟨pw,w,K,h,mg,mb,a,ns⟩:=by
 obtain⟨o,ho⟩:=qW.mp sm
 exact⟨ID,G.T.g,G.T.b,G.T.builtins,G.T.nolimit,G.T.nodigits,G.T.seer Na,rfl,⟨o,ID _ _ ho⟩,vs,hL,II hI,hz⟩
theorem t0:Nh 60 callerA:=⟨rfl,by decide,by decide,_,rfl⟩
set_option tactic.hygienic true in
theorem fin(Zq:∀W:Wd,dR W->W.PL.length<=63->KW W 60 (.ref 927) [.ref W.xO] (λ _=>none) λ v _=>v=.bool true):PySem.Challenge.rw_nn0417_01.Holds:=by
 obtain⟨d,Wj,e1,e2,e3⟩:=Sr
 refine holds_law Mx λ Vq=>?_
 refine holds_open (r:=PySem.Challenge.rw_nn0417_01.row) (q:=qv) (loose:=lo) (Xt:=Uq) (XP:=Su) (Yf:=λ _=>()) (Ya:=λ _=>()) (YP:=λ _ _=>True) (N:=7000) (Cv ev) (λ _ _ _=>trivial) (λ _ _ _ _ _=>trivial) bj Xh e1 e2 e3 (λ s _=>recFacts_nil rfl) rfl Vq Yk Nf My ?_
 intro w VQ I2 mg mb G Y fa o pm cd doc dV kV ho hd fh hD b8 hg args vals as vU Xd y4 w9 Hy
 wrow_args vU Xd y4 w9 Hy
 rename_i ns _ _ _ _ _ _ _ a vs _ hL _ _ _ hI _ hz _
 obtain⟨K,k1,k2,k3⟩:=G.X
 obtain⟨k2,k4⟩:=F0.mp k2
 have Dd:ns.length<=63:=by lia
 have hW:=Pz G k3 k2 hL hI (by lia)
 have hn:d.name="law":=defOf_name e1
 have hm:=mg_of k3 G.T.g (rP k4)
 rw[hn,show mg (Str.ofString "law")=_ from hm]at b8
 cases b8
 have S:SR ⟨pw,w,K,I2.heap,mg,mb,a,ns⟩ (λ _=>none) I2.heap:=⟨λ _ _ e=>(nomatch e),λ _ _ e=>e,λ _ e=>absurd rfl e⟩
 have:=Zq ⟨pw,w,K,I2.heap,mg,mb,a,ns⟩ ⟨hW,k1⟩ Dd callerA I2 [.ref a] t0 S (.cons (.ref a) .nil)
 refine wpAny_call (codeAny_mono this λ r s' p=>?_)
 cases r with
 |error e=>exact p.elim
 |ok c=>cases c with
 |ret v=>
  obtain⟨pv,B9,rfl,rv,S',_,m⟩:=p
  cases rv
  obtain⟨h',tk,rfl⟩:=m
  exact⟨.inl ⟨_,.bool true,[],rfl,λ _=>rfl,.bool ..,by kernel_rfl,λ _=>⟨.nil,λ _ h=>(nomatch h)⟩⟩,.of_keep S'.keep,rfl,.of_eq hg⟩
 |_=>exact p.elim
end Top
section
variable{W:Wd}{n:Nat}{σ:PH}{Q:PV->PH->Prop}
theorem LI{f:Value}{x:PV}(h:∀A s v,Rm n A->SR W σ s.heap->VR s.heap x v->wpAny W.M A (call f [v]) (K4 W σ s Q) (λ _ _=>False) s):J9 W n f [x] σ Q:=λ A s vs rm S rv=>by
 cases rv with|cons r q=>cases q;exact h A s _ rm S r
theorem YF{f:Value}{x y:PV}(h:∀A s v u,Rm n A->SR W σ s.heap->VR s.heap x v->VR s.heap y u->wpAny W.M A (call f [v,u]) (K4 W σ s Q) (λ _ _=>False) s):J9 W n f [x,y] σ Q:=λ A s vs rm S rv=>by
 cases rv with|cons r q=>cases q with|cons r2 q=>cases q;exact h A s _ _ rm S r r2
theorem Xw{f:Value}{x y z:PV}(h:∀A s v u t,Rm n A->SR W σ s.heap->VR s.heap x v->VR s.heap y u->VR s.heap z t->wpAny W.M A (call f [v,u,t]) (K4 W σ s Q) (λ _ _=>False) s):J9 W n f [x,y,z] σ Q:=λ A s vs rm S rv=>by
 cases rv with|cons r q=>cases q with|cons r2 q=>cases q with|cons r3 q=>cases q;exact h A s _ _ _ rm S r r2 r3
theorem K4.val{A:Around}{s:Shared}{v:Value}{pv:PV}{tk:Tok}(S:SR W σ s.heap)(r:VR s.heap pv v)(q:Q pv σ):K4 W σ s Q v {s with toks:=tk}:=⟨pv,σ,q,r,S,.refl _ _,⟨s.heap,tk,rfl⟩⟩
theorem K4.keep{s:Shared}{v:Value}{pv:PV}{tk:Tok}{h':Heap}(S:SR W σ s.heap)(k:∀b o,s.heap.get? b=some o->h'.get? b=some o)(r:VR h' pv v)(q:Q pv σ):K4 W σ s Q v {s with heap:=h',toks:=tk}:=⟨pv,σ,q,r,S.keeps k,.keeps k,⟨h',tk,rfl⟩⟩
theorem K4.made{s:Shared}{a:Addr}{o:PO}{ob:Obj}{tk:Tok}{h':Heap}(S:SR W σ s.heap)(k:∀b o,s.heap.get? b=some o->h'.get? b=some o)(na:s.heap.get? a=none)(e:h'.get? a=some ob)(r:OR W h' o ob)(q:∀c,σ c=none->Q (.ref c) (σ.set c o)):
  K4 W σ s Q (.ref a) {s with heap:=h',toks:=tk}:=by
 have hZ:=S.alloc na k e r;delta hZ S' x z
 exact⟨_,_,q _ z,.ref _,S',x,⟨h',tk,rfl⟩⟩
theorem OG{a:Addr}{xs:List PV}(e:σ a=some (.list xs))(q:Q (.int xs.length) σ):J9 W n (.builtin "len") [.ref a] σ Q:=LI λ A s v rm S r=>by
 cases r
 refine ee2.e (S.list e) λ vs k hZ=>?_;delta hZ e1 r1 z
 have l:=r1.length
 refine call_len_list (Q3 e1) (by rw[H1];lia) ?_
 rw[H1,l]
 exact K4.val (A:=A) S (.int _ _) q
theorem UR{x:Str}(q:Q (.int x.length) σ):J9 W n (.builtin "len") [.str x] σ Q:=LI λ A s v rm S r=>by
 cases r with
 |str _ t hz=>
  rw[K0]at hz
  exact P.len_str (by lia) (K4.val (A:=A) S (.int _ _) q)
theorem aQ{i:Int}(q:Q (.rZ 0 i) σ):J9 W n (.type "range") [.int i] σ Q:=LI λ A s v rm S r=>by
 cases r with
 |int _ t=>exact call_range_1 (K4.keep S (Q6 _ _) (.rZ (IsRange.new ..)) q)
theorem KK{i j:Int}(q:Q (.rZ i j) σ):J9 W n (.type "range") [.int i,.int j] σ Q:=YF λ A s v u rm S r r2=>by
 cases r;cases r2
 exact call_range_2 (K4.keep S (Q6 _ _) (.rZ (IsRange.new ..)) q)
theorem pH{a:Addr}{xs:List PV}(e:σ a=some (.list xs))(hz:xs.length<=2^24)(q:∀c,σ c=none->Q (.ref c) (σ.set c (.list xs))):J9 W n (.type "list") [.ref a] σ Q:=LI λ A s v rm S r=>by
 cases r
 refine ee2.e (S.list e) λ vs k hZ=>?_;delta hZ e1 r1
 have l:=r1.length
 exact call_list_seq (hsz:=by rw[H1,K0];lia) a (.inl rfl) e1 rfl rfl λ h' c' kp hD=>K4.made S kp (W7 (D7 _)) hD (.list (r1.V7 (.keeps kp)) (by lia)) q
theorem CH{xs:List PV}(hz:xs.length<=2^24)(q:∀c,σ c=none->Q (.ref c) (σ.set c (.list xs))):J9 W n (.type "list") [.tup xs] σ Q:=LI λ A s v rm S r=>by
 cases r with
 |@tup _ a vs ht r1 _=>
  intros ht o hZ;generalize hZ.1=ho;generalize hZ.2=P4;generalize P4.1=hc;refine A0 P4.2 λ k hd=>?_;try clear P4;try clear hZ
  have l:=r1.length
  exact call_list_seq (hsz:=by rw[H1,K0];lia) a (.inr rfl) ho hc hd λ h' c' kp hD=>K4.made S kp (W7 (D7 _)) hD (.list (r1.V7 (.keeps kp)) (by lia)) q
theorem mP{a:Addr}{xs:List PV}(e:σ a=some (.list xs))(hz:xs.length<=2^24)(q:Q (.tup xs) σ):J9 W n (.type "tuple") [.ref a] σ Q:=LI λ A s v rm S r=>by
 cases r
 refine ee2.e (S.list e) λ vs k hZ=>?_;delta hZ e1 r1
 have l:=r1.length
 refine call_tuple_list (Q3 e1) (λ h' kp=>?_) (by rw[H1,K0];lia)
 have QI:∀b o,s.heap.get? b=some o->(h'.push {cls:=.type "tuple",data:=.seq vs.toArray}).get? b=some o:=λ b o q=>Q6 _ _ b o (kp b o q)
 exact K4.keep (tk:=s.toks) S QI (.tup ⟨_,N6 _ rfl,rfl,0,rfl⟩ (r1.V7 (.keeps QI)) (by lia)) q
theorem Iq{i j:Int}(q:Q (.int (if j>i then j else i)) σ):J9 W n (.builtin "max") [.int i,.int j] σ Q:=YF λ A s v u rm S r r2=>by
 cases r;cases r2
 refine max_two_ints rm.hd λ h' tk kp=>?_
 split
 ·rename_i h;rw[F7 h]at q;exact K4.keep S kp (.int _ _) q
 ·rename_i h;rw[G0 h]at q;exact K4.keep S kp (.int _ _) q
theorem So{i:Int}(q:Q (.int (if i<0 then -i else i)) σ):J9 W n (.builtin "abs") [.int i] σ Q:=LI λ A s v rm S r=>by
 cases r
 exact call_abs_int λ u tk=>K4.val (A:=A) S (.int _ _) q
theorem CE{i:Int}(h:i.natAbs<10^7)(q:Q (.str (Str.ofString (toString i))) σ):J9 W n (.type "str") [.int i] σ Q:=LI λ A s v rm S r=>by
 cases r
 refine str_of_int_fit (N:=10^7) (by split<;>lia) (by decide) λ hl=>K4.val (A:=A) S (.str _ _ ?_) q
 have:=len_str_of_int i
 rw[K0]
 lia
theorem Ai{i:Int}(h0:0<=i)(h1:i<10^10)(q:Q (.int i) σ):J9 W n (.type "int") [.str (Str.ofString (toString i))] σ Q:=LI λ A s v rm S r=>by
 cases r
 exact KIN.call_num h0 h1 (K4.val (A:=A) S (.int _ _) q)
theorem PN{x:Str}(q:Q (.str (Txt.strip x)) σ):J9 W n (.builtin "str.strip") [.str x] σ Q:=LI λ A s v rm S r=>by
 cases r with
 |str _ t hz=>
  exact PyProof.Rows.SCL.strip (λ t' k hl=>K4.val (A:=A) S (.str _ _ (by lia)) q) hz
theorem Js{x y:Str}(q:Q (.int (Txt.find x y)) σ):J9 W n (.builtin "str.find") [.str x,.str y] σ Q:=YF λ A s v u rm S r r2=>by
 cases r;cases r2
 exact PySem.SC.find (K4.val (A:=A) S (.int _ _) q)
theorem cE{x y:Str}(q:Q (.bool (Txt.startswith x y)) σ):J9 W n (.builtin "str.startswith") [.str x,.str y] σ Q:=YF λ A s v u rm S r r2=>by
 cases r;cases r2
 exact PySem.SC.startswith (K4.val (A:=A) S (.bool _) q)
theorem UQ{xs:List PV}(q:Q (.int xs.length) σ):J9 W n (.builtin "len") [.tup xs] σ Q:=LI λ A s v rm S r=>by
 cases r with
 |@tup _ a vs ht r1 hz=>
  have l:=r1.length
  refine PyProof.Rows.len_tuple ht (by rw[H1];lia) ?_
  rw[H1,l]
  exact K4.val (A:=A) S (.int _ _) q
theorem sR{A:Around}{s:Shared}{a:Addr}{xs ys:List PV}{vs us:List Value}{k:Nat}{f:Array Value->Array Value}{v:Value}{pv:PV}(S:SR W σ s.heap)(e:σ a=some (.list xs))(e1:s.heap.get? a=some ⟨.type "list",none,.seq vs.toArray k,#[]⟩)
  (hf:f vs.toArray=us.toArray)(r:bP s.heap ys us)(hz:ys.length<=2^25)(rv:VR s.heap pv v)(q:Q pv (σ.set a (.list ys))):K4 W σ s Q v {s with heap:=s.heap.update a (Obj.mapSeq f)}:=by
 have e2:=get?_update_seq e1 f
 rw[hf]at e2
 have sb:Heap.SameBut a s.heap (s.heap.update a (Obj.mapSeq f)):=cX ..
 have m:nT s.heap (s.heap.update a (Obj.mapSeq f)):=nT.sameBut sb e1 rfl
 have hZ:=S.upd e sb e2 (.list r hz);delta hZ S' t
 exact⟨pv,_,q,rv.V7 m,S',t,⟨_,s.toks,rfl⟩⟩
theorem BE{a:Addr}{xs:List PV}{y:PV}(e:σ a=some (.list xs))(hz:xs.length<=2^24)(q:Q .none (σ.set a (.list (xs++[y])))):J9 W n (.builtin "list.append") [.ref a,y] σ Q:=YF λ A s v u rm S r r2=>by
 cases r
 refine ee2.e (S.list e) λ vs k hZ=>?_;delta hZ e1 r1
 have l:=r1.length
 refine cY slot_list_append ⟨_,e1,rfl⟩ entry_list_append ?_ (args_list_append _ _)
 show wpAny _ _ (updateSeq a (·.push u)>>=λ _=>ret .none) _ _ s
 refine B6 ?_
 refine wpAny_updateSeq e1 rfl (D4 ⟨.none,rfl,?_⟩) (by rw[H1,K0];lia) (by simp[K0];lia)
 exact sR (A:=A) S e e1 (us:=vs++[u]) (by simp) (r1.append (.cons r2 .nil)) (by simp;lia) .none q
theorem XH{a b:Addr}{xs ys:List PV}(e:σ a=some (.list xs))(eb:σ b=some (.list ys))(hz:xs.length+ys.length<=2^24)(q:Q .none (σ.set a (.list (xs++ys)))):J9 W n (.builtin "list.extend") [.ref a,.ref b] σ Q:=YF λ A s v u rm S r r2=>by
 cases r;cases r2
 refine ee2.e (S.list e) λ vs k hZ=>?_;delta hZ e1 r1
 refine ee2.e (S.list eb) λ us k2 hZ=>?_;delta hZ e2 r2
 have l1:=r1.length
 have l2:=r2.length
 have hs:vs.toArray.size+us.toArray.size<=sizeLine:=by rw[H1,H1,K0];lia
 refine iV PySem.F.slot_list_extend ⟨_,e1,rfl⟩ PySem.F.entry_list_extend (PySem.F.args_list_extend_2 _ _) (AutoSeq1.list_extend_list_list_0 a vs.toArray k b us.toArray k2 (extend_door hs) (A9 (J6 _ _) hs)) ⟨e1,e2,?_⟩
 exact sR (A:=A) S e e1 (us:=vs++us) (by simp) (r1.append r2) (by simp;lia) .none q
theorem Hm{a:Addr}{xs:List PV}{y:PV}(e:σ a=some (.list (xs++[y])))(hz:xs.length<2^24)(q:Q y (σ.set a (.list xs))):J9 W n (.builtin "list.pop") [.ref a] σ Q:=LI λ A s v rm S r=>by
 cases r
 refine ee2.e (S.list e) λ vs k hZ=>?_;delta hZ e1 r1
 have l:=r1.length
 simp only[B0,H5,List.length_nil]at l
 obtain⟨us,u,rfl⟩:∃us u,vs=us++[u]:=by
  clear e1 r1;rcases List.eq_nil_or_concat vs with h|⟨us,u,h⟩
  ·subst h;simp at l
  ·exact⟨us,u,by simpa using h⟩
 simp only[B0,H5,List.length_nil]at l
 have hr:bP s.heap xs us∧VR s.heap y u:=by
  have t:=r1.take xs.length
  have d:=r1.drop xs.length
  have lu:us.length=xs.length:=by lia
  rw[List.take_left',List.take_left' lu]at t
  ·rw[List.drop_left',List.drop_left' lu]at d
   ·cases d with|cons a _=>exact⟨t,a⟩
   ·rfl
  ·rfl
 have hy:(us++[u]).toArray[(us++[u]).toArray.size - 1]? =some u:=by simp
 refine iV PySem.F.slot_list_pop ⟨_,e1,rfl⟩ PySem.F.entry_list_pop (PySem.F.args_list_pop_1 _) (PySem.MeetsSeq.list_pop_last a _ k u hy (by simp[K0];lia)) ⟨e1,?_⟩
 exact sR (A:=A) S e e1 (us:=us) (by
  have:=kl_erase us [] u
  simp only[C9]at this
  have z:(us++[u]).toArray.size - 1=us.length:=by simp
  rw[z];exact this) hr.1 (by lia) hr.2 q
theorem XG{a:Addr}{xs:List PV}{j:Int}{y:PV}(e:σ a=some (.list xs))(h0:0<=j)(hi:j.toNat<=xs.length)(hz:xs.length<=2^24)(q:Q .none (σ.set a (.list (xs.take j.toNat++y::xs.drop j.toNat)))):J9 W n (.builtin "list.insert") [.ref a,.int j,y] σ Q:=Xw λ A s v u t rm S r r2 r3=>by
 cases r;cases r2
 refine ee2.e (S.list e) λ vs k hZ=>?_;delta hZ e1 r1
 have l:=r1.length
 refine iV PySem.F.slot_list_insert ⟨_,e1,rfl⟩ PySem.F.entry_list_insert (PySem.F.args_list_insert_3 _ _ _) (PySem.AutoSeq1.list_insert_list_int_val_1 a _ k j _ t (by simp[Builtin.List.listFitsIndex];lia) (by rw[H1,K0];lia)) ⟨e1,?_⟩
 refine sR (A:=A) S e e1 (us:=vs.take j.toNat++t::vs.drop j.toNat) ?_ ((r1.take _).append (.cons r3 (r1.drop _))) (by rw[B0,Y2,H5,U7,XD,l];exact A9 (O1 hz) (C3 rfl)) .none q
 generalize hj:j.toNat=i
 rw[hj]at hi
 have hm:min i vs.length=i:=by lia
 have hn:¬j<0:=by lia
 simp only[hn,gZ,H1,hm]
 apply Array.ext'
 simp[List.extract_eq_take_drop]
 exact iA (by simp)
theorem Cb{x:Str}{i:Int}(h0:0<=i)(h1:i<=2^20)(q:Q (.str (Txt.ljust x i)) σ)(hz:(Txt.ljust x i).length<=2^24):J9 W n (.builtin "str.ljust") [.str x,.int i] σ Q:=YF λ A s v u rm S r r2=>by
 cases r;cases r2
 refine PySem.SC.ljust ?_ λ t' k=>K4.val (A:=A) S (.str _ _ (by rw[K0];lia)) q
 unfold PadOk fitsSsize Builtin.Str.tooLong
 rw[K0]
 simp only[W2,dK,Bool.or_eq_false_iff,decide_eq_false_iff_not]
 exact⟨⟨by lia,by lia⟩,by lia⟩
theorem zN{h:Heap}:∀{ys:List Str} {vs:List Value},bP h (ys.map .str) vs->StrsAre vs ys
 |[],vs,r=>by cases r;exact .nil
 |y::q,vs,r=>by cases r with|cons a b=>cases a;exact .cons _ _ (zN b)
theorem Jp{x:Str}{a:Addr}{ys:List Str}(e:σ a=some (.list (ys.map .str)))(hz:(ys.map (·.length)).sum+ys.length*x.length<=2^24)(q:Q (.str (Txt.join x ys)) σ)(hj:(Txt.join x ys).length<=2^24):J9 W n (.builtin "str.join") [.str x,.ref a] σ Q:=YF λ A s v u rm S r r2=>by
 cases r;cases r2
 refine ee2.e (S.list e) λ vs k hZ=>?_;delta hZ e1 r1
 exact join_list (Q3 e1) (ys:=ys) (zN r1) (by lia) λ t' k=>K4.val (A:=A) S (.str _ _ (by rw[K0];lia)) q
theorem sQ{h:Heap}:∀(xs:List Str) (tk:Nat),(∀x∈xs,x.length<=2^20)->bP h (xs.map .str) (strValues (numbered tk xs))
 |[],_,_=>.nil
 |x::r,tk,hz=>.cons (.str x tk (by have:=hz x (.head _);rw[K0];lia)) (sQ r (tk+1) λ y hy=>hz y (.tail _ hy))
set_option tactic.hygienic true in
theorem s_split{x y:Str}(hy:y.length≠0)(hz:x.length<=2^20)(hs:∀p∈Txt.split x y,p.length<=2^20)(hn:(Txt.split x y).length<=2^20)(q:∀c,σ c=none->Q (.ref c) (σ.set c (.list ((Txt.split x y).map .str)))):J9 W n (.builtin "str.split") [.str x,.str y] σ Q:=YF λ A s v u rm S r r2=>by
 cases r;cases r2
 rename_i t w5 u ey
 have Zu:(y.length==0)=false:=by simpa using hy
 unfold Txt.split at hs hn q
 have mk:∀(xs:List Str) (tk Te:Nat),(∀p∈xs,p.length<=2^20)->xs.length<=2^20->(∀c,σ c=none->Q (.ref c) (σ.set c (.list (xs.map .str))))->K4 W σ s Q (.ref s.heap.objs.size) {s with heap:=s.heap.push {cls:=.type "list",data:=.seq (strValues (numbered tk xs)).toArray},toks:=Te}:=λ xs tk Te h1 h2 h3=>
  K4.alloc (o:=.list (xs.map .str)) (ob:=⟨.type "list",none,.seq (strValues (numbered tk xs)).toArray 0,#[]⟩) S (.list (sQ xs tk h1) (by simp;lia)) h3
 cases h1:(decide (x.length<y.length)||decide (Builtin.Str.strKind x<Builtin.Str.strKind y))
 ·rw[G0 (by rw[h1];exact C5)]at hs hn q
  cases hf:(Builtin.Str.occurrences x y 0 x.length (x.length+1)).isEmpty
  ·rw[G0 (by rw[hf];exact C5)]at hs hn q
   refine iV hJ (typeIs_str _ _ _) sH (qV _ _) (meets_str_split_sep x y t u h1 Zu hf w5 (by rw[K0];lia)) ?_
   have:=mk _ s.toks (s.toks+(Builtin.Str.partsBetween x (Builtin.Str.occurrences x y 0 x.length (x.length+1)) y.length).length) hs hn q
   rw[<-strsFrom_eq]at this
   exact this
  ·rw[F7 hf]at hs hn q
   exact iV hJ (typeIs_str _ _ _) sH (qV _ _) (meets_str_split_not_found x y t u h1 Zu hf) (mk [x] t s.toks hs hn q)
 ·rw[F7 h1]at hs hn q
  exact iV hJ (typeIs_str _ _ _) sH (qV _ _) (meets_str_split_cannot_occur x y t u h1) (mk [x] t s.toks hs hn q)
end
section
def Ext(σ B9:PH):Prop:=∀a o,σ a=some o->B9 a=some o
theorem Ext.refl(σ:PH):Ext σ σ:=λ _ _ h=>h
theorem Ext.trans{σ B4 H6:PH}(x:Ext σ B4)(y:Ext B4 H6):Ext σ H6:=λ a o h=>y a o (x a o h)
theorem Ext.new{σ:PH}{c:Addr}(h:σ c=none)(o:PO):Ext σ (σ.set c o):=λ a p e=>by
 rw[PH.U0];exact e
 rintro rfl;rw[h]at e;cases e
theorem Ext.upd{C8 σ:PH}{c:Addr}(E:Ext C8 σ)(h:C8 c=none)(o:PO):Ext C8 (σ.set c o):=λ a p e=>by
 rw[PH.U0];exact E a p e
 rintro rfl;rw[h]at e;cases e
theorem Ext.none{σ B9:PH}(E:Ext σ B9){c:Addr}(h:B9 c=none):σ c=none:=by
 cases e:σ c with
 |none=>rfl
 |some o=>rw[E c o e]at h;cases h
theorem PH.VX{σ:PH}{a c:Addr}{o p:PO}(h:σ a=some o)(hc:σ c=none):(σ.set c p) a=some o:=Ext.new hc p a o h
theorem PH.set_set(σ:PH)(a:Addr)(o p:PO):(σ.set a o).set a p=σ.set a p:=by
 funext b;unfold PH.set;split<;>rfl
def aT(σ:PH)(a C:Addr)(fs:List (String×PV)):Prop:=∃dx,σ a=some (.inst C dx)∧σ dx=some (.attrs C fs)
theorem aT.ext{σ B9:PH}(E:Ext σ B9){a C:Addr}{fs:List (String×PV)}(h:aT σ a C fs):aT B9 a C fs:=let⟨dx,h1,h2⟩:=h;⟨dx,E _ _ h1,E _ _ h2⟩
theorem aT.fld{σ:PH}{a C:Addr}{fs:List (String×PV)}(h:aT σ a C fs)(f:String):Mine.Internal.fld σ (.ref a) f=fs.lookup f:=by
 intros h dx hZ;delta hZ h1 h2
 show lD none _ (σ a)=_
 rw[h1]
 show tS none _ (σ dx)=_
 rw[h2]
 exact F7 rfl
theorem aT.H2{σ:PH}{a C m:Addr}{fs:List (String×PV)}(h:aT σ a C fs)(f:String)(e1:fs.lookup f=none)(e2:tb.H2 C f=some m):dZ tb σ (.ref a) f=some (.ref m):=by
 intros h dx hZ;delta hZ h1 h2
 show lD _ _ (σ a)=_
 rw[h1]
 show tS none _ (σ dx)=_
 rw[h2]
 exact(F7 rfl).trans ((F7 (by rw[e1];rfl)).trans (by rw[e2];rfl))
theorem N9{σ:PH}{a:Addr}{xs:List PV}(h:σ a=some (.list xs))(f:String):dZ tb σ (.ref a) f=(QF.lookup f).map .builtin:=by
 show lD (cG _ _ (σ a)) _ (σ a)=_
 rw[h];rfl
theorem gX{σ:PH}{a:Addr}{es:List (PK×PV)}{n:Nat}(h:σ a=some (.dict es n))(f:String):dZ tb σ (.ref a) f=(HJ.lookup f).map .builtin:=by
 show lD (cG _ _ (σ a)) _ (σ a)=_
 rw[h];rfl
theorem I0{σ:PH}{a:Addr}{xs:List PV}{k:Nat}{x:PV}(h:σ a=some (.list xs))(e:xs[k]? =some x):gE σ (.ref a) (.int k)=some x:=by
 show cG _ _ (σ a)=_
 rw[h]
 show xQ xs k=_
 unfold xQ;rw[F7 (G6 k)];exact e
theorem fQ{σ:PH}{xs:List PV}{k:Nat}{x:PV}(e:xs[k]? =some x):gE σ (.tup xs) (.int k)=some x:=by
 show xQ xs k=_
 unfold xQ;rw[F7 (G6 k)];exact e
theorem BJ{σ:PH}{a:Addr}{xs:List PV}{x:PV}(h:σ a=some (.list xs)):QP σ x (.ref a)=DD x xs:=by
 show cG _ _ (σ a)=_
 rw[h];rfl
theorem uA{σ:PH}{a:Addr}{es:List (PK×PV)}{m:Nat}{x:PV}{q:PK}(h:σ a=some (.dict es m))(hk:keyOf x=some q)(hs:U3 q es=true):QP σ x (.ref a)=some (es.lookup q).isSome:=by
 show cG _ _ (σ a)=_
 rw[h]
 show(keyOf x).bind _=_
 rw[hk]
 exact F7 hs
theorem bE{σ:PH}{a:Addr}{es:List (PK×PV)}{m:Nat}{x:PV}{q:PK}(h:σ a=some (.dict es m))(hk:keyOf x=some q):gE σ (.ref a) x=es.lookup q:=by
 show cG _ _ (σ a)=_
 rw[h]
 show(keyOf x).bind _=_
 rw[hk];rfl
theorem GJ{α:Type}{x v:α}{K:α->PH->Prop}{σ:PH}(h:some v=some x)(k:K x σ):K v σ:=(G8 h).symm▸k
theorem MK{α β:Type}{o:Option α}{f:α->Option β}{x:β}{C:Prop}(h:o.bind f=some x)(k:∀v,o=some v->f v=some x->C):C:=let⟨v,a,b⟩:=gJ.mp h;k v a b
theorem Tj{α β:Type}{o:Option α}{f:α->β}{x:β}{C:Prop}(h:o.map f=some x)(k:∀v,o=some v->some (f v)=some x->C):C:=let⟨v,a,b⟩:=O3.mp h;k v a (C7 some b)
theorem MO{α β:Type}{o:Option α}{f:α->Option β}{v:α}{x:Option β}(h:o=some v)(h':f v=x):o.bind f=x:=by rw[h];exact h'
def XK(σ:PH)(v:PV):Option PV:=nM (onStr (AS none (λ xs=>some (.int xs.length)) v) (λ s=>some (.int s.length)) v) (λ a=>iK none (λ xs=>some (.int xs.length)) (σ a)) v
def binI(op:Operator)(v w:PV):Option PV:=iL none (λ a=>iL none (λ b=>match op with
  |.Add=>some (.int (a+b))
  |.Sub=>some (.int (a - b))
  |.BitOr=>some (.int (Builtin.bitOr a b))
  |.BitAnd=>some (.int (Builtin.bitAnd a b))
  |_=>none) w) v
def Qk(σ:PH)(f:Value)(xs:List PV):Option PV:=if V.blt f (λ s=>decide (s="len"))=true then(xs.head?.bind (XK σ)).filter λ _=>xs.length==1 else none
def XJ(o:Option PV):Option PV:=Option.casesOn (motive:=λ _=>Option PV) o none λ v=>PV.casesOn (motive_1:=λ _=>Option PV) v (some v) (λ _=>some v) (λ _=>some v) (λ _=>some v) (λ _=>some v) (λ _=>some v) (λ _ _=>some v) none
def Vy(v:PV):Option PV:=iL none (λ i=>some (.int (-i))) v
section
variable{W:Wd}{n:Nat}{σ:PH}{ρ:List PV}{K:PV->PH->Prop}{x v w:PV}
theorem Kl(h:XK σ v=some x)(k:K x σ):J9 W n (.builtin "len") [v] σ K:=
 dB (P:=λ v=>J9 W n (.builtin "len") [v] σ K) v h (λ h=>tR (P:=λ v=>J9 W n (.builtin "len") [v] σ K) v h (λ h=>AR (P:=λ v=>J9 W n (.builtin "len") [v] σ K) v h no λ xs h=>UQ (GJ h k)) λ s h=>UR (GJ h k))
  λ a h=>dC (P:=λ o=>σ a=o->J9 W n (.builtin "len") [.ref a] σ K) (σ a) h no (λ xs h e=>OG e (GJ h k)) rfl
theorem Gh{op:Operator}(h:binI op v w=some x)(k:K x σ):mO op σ K v w:=
 dD (P:=λ v=>mO op σ K v w) v h no λ a h=>dD (P:=λ w=>mO op σ K (.int a) w) w h no λ b h=>by cases op<;>first|exact no h|exact GJ (K:=K) h k
theorem Kj{i:Nat}(h:XJ ρ[i]? =some x)(k:K x σ):(wp W tb n (.loc i)).v ρ σ K:=by
 show(match ρ[i]? with|some .M7=>False|some v=>K v σ|none=>False)
 generalize ρ[i]? =o at h
 cases o with
 |none=>exact no h
 |some v=>cases v<;>first|exact GJ (K:=K) h k|exact no h
theorem Cu{f:Value}{xs:List PV}(h:Qk σ f xs=some x)(k:K x σ):J9 W n f xs σ K:=by
 by_cases c:V.blt f (λ s=>decide (s="len"))=true
 ·have h:=(F7 c).symm.trans h
  refine V.CC (P:=λ f=>J9 W n f xs σ K) f c λ s e=>?_
  rw[D0 e]
  match xs,h with
  |[],h=>exact no h
  |[v],h=>exact Kl (Option.filter_eq_some_iff.mp h).1 k
  |_::_::_,h=>exact absurd (Option.filter_eq_some_iff.mp h).2 C5
 ·exact no ((G0 c).symm.trans h)
end
abbrev dd(σ:PH)(ρ:List PV)(e:PE):Type:={o:Option PV//∀(W:Wd) (n:Nat) (x:PV) (K:PV->PH->Prop),o=some x->K x σ->(wp W tb n e).v ρ σ K}
abbrev Yo(σ:PH)(ρ:List PV)(es:uM):Type:={o:Option (List PV)//∀(W:Wd) (n:Nat) (x:List PV) (K:List PV->PH->Prop),o=some x->K x σ->DO W tb n es ρ σ K}
mutual
noncomputable def EI(σ:PH)(ρ:List PV):(e:PE)->dd σ ρ e
 |.none=>⟨some .none,λ _ _ _ K h k=>GJ (K:=K) h k⟩
 |.bool b=>⟨some (.bool b),λ _ _ _ K h k=>GJ (K:=K) h k⟩
 |.int i=>⟨some (.int i),λ _ _ _ K h k=>GJ (K:=K) h k⟩
 |.str s=>⟨some (.str (Str.ofString s)),λ _ _ _ K h k=>GJ (K:=K) h k⟩
 |.absent=>⟨some .none,λ _ _ _ K h k=>GJ (K:=K) h k⟩
 |.loc i=>⟨XJ ρ[i]?,λ _ _ _ _ h k=>Kj h k⟩
 |.gi _ i=>⟨some (.int i),λ _ _ _ K h k=>GJ (K:=K) h k⟩
 |.attr o f=>⟨(EI σ ρ o).1.bind λ v=>fld σ v f,λ W n x _ h k=>MK h λ v h1 h2=>(EI σ ρ o).2 W n v _ h1 ⟨x,h2,k⟩⟩
 |.sub o i=>⟨(EI σ ρ o).1.bind λ v=>(EI σ ρ i).1.bind λ w=>gE σ v w,λ W n x _ h k=>MK h λ v h1 h=>MK h λ w h2 h=>(EI σ ρ o).2 W n v _ h1 ((EI σ ρ i).2 W n w _ h2 ⟨x,h,k⟩)⟩
 |.bin op a b=>⟨(EI σ ρ a).1.bind λ v=>(EI σ ρ b).1.bind λ w=>binI op v w,λ W n _ _ h k=>MK h λ v h1 h=>MK h λ w h2 h=>(EI σ ρ a).2 W n v _ h1 ((EI σ ρ b).2 W n w _ h2 (Gh h k))⟩
 |.neg a=>⟨(EI σ ρ a).1.bind Vy,λ W n _ K h k=>MK h λ v h1 h=>(EI σ ρ a).2 W n v _ h1 (dD (P:=λ v=>match v with|.int i=>K (.int (-i)) σ|_=>False) v h no λ i h=>GJ (K:=K) h k)⟩
 |.cmp op a b=>⟨(EI σ ρ a).1.bind λ v=>(EI σ ρ b).1.bind λ w=>(iR σ op v w).map .bool,λ W n _ K h k=>MK h λ v h1 h=>MK h λ w h2 h=>Tj h λ r h3 h=>(EI σ ρ a).2 W n v _ h1 ((EI σ ρ b).2 W n w _ h2 ⟨r,h3,GJ (K:=K) h k⟩)⟩
 |.tup es=>⟨(JA σ ρ es).1.map .tup,λ W n _ K h k=>Tj h λ xs h1 h=>(JA σ ρ es).2 W n xs _ h1 (GJ (K:=K) h k)⟩
 |.call _ f es=>⟨(JA σ ρ es).1.bind (Qk σ f),λ W n _ _ h k=>MK h λ xs h1 h=>(JA σ ρ es).2 W n xs _ h1 (Cu h k)⟩
 |_=>⟨none,λ _ _ _ _ h=>no h⟩
noncomputable def JA(σ:PH)(ρ:List PV):(es:uM)->Yo σ ρ es
 |.nil=>⟨some [],λ _ _ _ K h k=>GJ (K:=K) h k⟩
 |.cons e r=>⟨(EI σ ρ e).1.bind λ x=>(JA σ ρ r).1.map (x::·),λ W n _ K h k=>MK h λ x h1 h=>Tj h λ xs h2 h=>(EI σ ρ e).2 W n x _ h1 ((JA σ ρ r).2 W n xs _ h2 (GJ (K:=K) h k))⟩
end
def pv(σ:PH)(ρ:List PV)(e:PE):Option PV:=(EI σ ρ e).1
def Be(σ:PH)(ρ:List PV)(es:uM):Option (List PV):=(JA σ ρ es).1
theorem X5{W:Wd}{n:Nat}{σ:PH}{ρ:List PV}(e:PE){x:PV}{K:PV->PH->Prop}(h:pv σ ρ e=some x)(k:K x σ):(wp W tb n e).v ρ σ K:=(EI σ ρ e).2 W n x K h k
theorem MJ{W:Wd}{n:Nat}{σ:PH}{ρ:List PV}(es:uM){xs:List PV}{K:List PV->PH->Prop}(h:Be σ ρ es=some xs)(k:K xs σ):DO W tb n es ρ σ K:=(JA σ ρ es).2 W n xs K h k
abbrev de(σ:PH)(ρ:List PV)(e:PE):Type:={o:Option Bool//∀(W:Wd) (n:Nat) (b:Bool) (K:Bool->PH->Prop),o=some b->K b σ->(wp W tb n e).t ρ σ K}
theorem Tk{W:Wd}{n:Nat}{σ:PH}{ρ:List PV}{e:PE}{b:Bool}{K:Bool->PH->Prop}(h:(pv σ ρ e).bind (zJ σ)=some b)(k:K b σ):(wp W tb n e).v ρ σ λ x B9=>∃b,zJ B9 x=some b∧K b B9:=MK h λ x h1 h2=>X5 e h1 ⟨b,h2,k⟩
def UZ(σ:PH)(ρ:List PV):(e:PE)->de σ ρ e
 |.not a=>⟨(UZ σ ρ a).1.map (!·),λ W n _ K h k=>Tj h λ t h1 h=>(UZ σ ρ a).2 W n t _ h1 (GJ (K:=K) h k)⟩
 |.and a b=>⟨(UZ σ ρ a).1.bind λ t=>bif t then(UZ σ ρ b).1 else some false,λ W n _ K h k=>MK h λ t h1 h=>(UZ σ ρ a).2 W n t _ h1 (by
   cases t
   ·exact GJ (K:=K) h k
   ·exact(UZ σ ρ b).2 W n _ K h k)⟩
 |.or a b=>⟨(UZ σ ρ a).1.bind λ t=>bif t then some true else(UZ σ ρ b).1,λ W n _ K h k=>MK h λ t h1 h=>(UZ σ ρ a).2 W n t _ h1 (by
   cases t
   ·exact(UZ σ ρ b).2 W n _ K h k
   ·exact GJ (K:=K) h k)⟩
 |.cmp op a b=>⟨(pv σ ρ (.cmp op a b)).bind (zJ σ),λ W n _ _ h k=>Tk (W:=W) (n:=n) h k⟩
 |.sub o i=>⟨(pv σ ρ (.sub o i)).bind (zJ σ),λ W n _ _ h k=>Tk (W:=W) (n:=n) h k⟩
 |.loc i=>⟨(pv σ ρ (.loc i)).bind (zJ σ),λ W n _ _ h k=>Tk (W:=W) (n:=n) h k⟩
 |.bool i=>⟨(pv σ ρ (.bool i)).bind (zJ σ),λ W n _ _ h k=>Tk (W:=W) (n:=n) h k⟩
 |_=>⟨none,λ _ _ _ _ h=>no h⟩
def pt(σ:PH)(ρ:List PV)(e:PE):Option Bool:=(UZ σ ρ e).1
theorem JC{W:Wd}{n:Nat}{σ:PH}{ρ:List PV}(e:PE){b:Bool}{K:Bool->PH->Prop}(h:pt σ ρ e=some b)(k:K b σ):(wp W tb n e).t ρ σ K:=(UZ σ ρ e).2 W n b K h k
section
variable{W:Wd}{n:Nat}{σ:PH}{ρ:List PV}{e e':PE}{v w x:PV}{Q:PV->PH->Prop}
theorem D8{f:String}(h:pv σ ρ e=some v)(hf:fld σ v f=some x):pv σ ρ (.attr e f)=some x:=MO h hf
theorem I8(h:pv σ ρ e=some v)(h':pv σ ρ e'=some w)(hs:gE σ v w=some x):pv σ ρ (.sub e e')=some x:=MO h (MO h' hs)
theorem jK{op:Operator}(h:pv σ ρ e=some v)(h':pv σ ρ e'=some w)(hs:binI op v w=some x):pv σ ρ (.bin op e e')=some x:=MO h (MO h' hs)
theorem WT{op:CmpOp}{b:Bool}(h:pv σ ρ e=some v)(h':pv σ ρ e'=some w)(hs:iR σ op v w=some b):pv σ ρ (.cmp op e e')=some (.bool b):=MO h (MO h' (C7 (Option.map PV.bool) hs))
theorem oV{es:uM}{xs:List PV}(h:Be σ ρ es=some xs):pv σ ρ (.tup es)=some (.tup xs):=C7 (Option.map PV.tup) h
theorem Hi:Be σ ρ .nil=some []:=rfl
theorem I9{es:uM}{xs:List PV}(h:pv σ ρ e=some v)(h':Be σ ρ es=some xs):Be σ ρ (.cons e es)=some (v::xs):=MO h (C7 (Option.map (v::·)) h')
theorem p1(h:pv σ ρ e=some v):Be σ ρ (.cons e .nil)=some [v]:=I9 h Hi
theorem V8{q:Nat}(h:pv σ ρ e=some v)(hs:XK σ v=some x):pv σ ρ (.call q (.builtin "len") (.cons e .nil))=some x:=MO (p1 h) ((F7 rfl).trans ((C7 (Option.filter _) hs).trans rfl))
theorem xD{z:Int}(h:pv σ ρ e=some (.int z)):pv σ ρ (.neg e)=some (.int (-z)):=MO h rfl
theorem WS{i:Nat}(h:ρ[i]? =some v)(hv:XJ (some v)=some v):pv σ ρ (.loc i)=some v:=(C7 XJ h).trans hv
theorem N3{op:CmpOp}{b:Bool}(h:pv σ ρ e=some v)(h':pv σ ρ e'=some w)(hs:iR σ op v w=some b):pt σ ρ (.cmp op e e')=some b:=MO (WT h h' hs) rfl
theorem ML{b:Bool}(h:pt σ ρ e=some b):pt σ ρ (.not e)=some (!b):=C7 (Option.map (!·)) h
theorem AD{b:Bool}(h:pv σ ρ (.sub e e')=some (.bool b)):pt σ ρ (.sub e e')=some b:=MO h rfl
theorem jQ{b b':Bool}(h:pt σ ρ e=some b)(h':pt σ ρ e'=some b'):pt σ ρ (.and e e')=some (b&&b'):=MO h (by clear h;cases b;rfl;exact h')
abbrev C0(k:Nat):PV:=.int k
theorem len_list{a:Addr}{xs:List PV}{k:Nat}(h:σ a=some (.list xs))(hk:xs.length=k):XK σ (.ref a)=some (C0 k):=(C7 (iK none λ xs=>some (PV.int xs.length)) h).trans (C7 (λ k:Nat=>some (C0 k)) hk)
theorem pV{xs:List PV}{k:Nat}(hk:xs.length=k):XK σ (.tup xs)=some (C0 k):=C7 (λ k:Nat=>some (C0 k)) hk
end
end
section
variable{W:Wd}{n:Nat}{σ:PH}{ρ:List PV}{r b b':V0}{K:Fl->List PV->PH->Prop}{Q:PV->PH->Prop}{B:Bool->PH->Prop}{e e' KD:PE}{i:Nat}{x v:PV}
theorem s_end(h:K .next ρ σ):S8 W tb n .nil ρ σ K:=h
theorem K1(h:(wp W tb n e).v ρ σ λ x B4=>S8 W tb n r (ρ.set i x) B4 K):S8 W tb n (.cons (.asg i e) r) ρ σ K:=h
theorem P3(h:pv σ ρ e=some x)(k:S8 W tb n r (ρ.set i x) σ K):S8 W tb n (.cons (.asg i e) r) ρ σ K:=X5 e h k
theorem WD{is:List Nat}{xs:List PV}(h:pv σ ρ e=some (.tup xs))(hl:xs.length=is.length)(k:S8 W tb n r (aO is xs ρ) σ K):S8 W tb n (.cons (.pK is e) r) ρ σ K:=X5 e h ⟨xs,rfl,hl,k⟩
theorem N4(h:(wp W tb n e).v ρ σ λ _ B4=>S8 W tb n r ρ B4 K):S8 W tb n (.cons (.expr e) r) ρ σ K:=h
theorem W3(h:(wp W tb n e).v ρ σ λ x B4=>K (.ret x) ρ B4):S8 W tb n (.cons (.ret e) r) ρ σ K:=h
theorem X8(h:pv σ ρ e=some x)(k:K (.ret x) ρ σ):S8 W tb n (.cons (.ret e) r) ρ σ K:=X5 e h k
theorem Jr{t:Bool}(h:pt σ ρ e=some t)(k:S8 W tb n (cond t b b') ρ σ λ fl O5 B9=>match fl with
  |.next=>S8 W tb n r O5 B9 K
  |.brk=>K .brk O5 B9
  |.cont=>K .cont O5 B9
  |.ret v=>K (.ret v) O5 B9):S8 W tb n (.cons (.ite e b b') r) ρ σ K:=JC e h (by cases t<;>exact k)
theorem qM(h:pt σ ρ e=some true)(k:S8 W tb n b ρ σ λ fl O5 B9=>match fl with
  |.next=>S8 W tb n r O5 B9 K
  |.brk=>K .brk O5 B9
  |.cont=>K .cont O5 B9
  |.ret v=>K (.ret v) O5 B9):S8 W tb n (.cons (.ite e b b') r) ρ σ K:=JC e h k
theorem oC(h:pt σ ρ e=some false)(k:S8 W tb n r ρ σ K):S8 W tb n (.cons (.ite e b .nil) r) ρ σ K:=JC e h k
theorem Cc(h:(wp W tb n e).t ρ σ λ t B4=>S8 W tb n (cond t b b') ρ B4 λ fl O5 B9=>match fl with
  |.next=>S8 W tb n r O5 B9 K
  |.brk=>K .brk O5 B9
  |.cont=>K .cont O5 B9
  |.ret v=>K (.ret v) O5 B9):S8 W tb n (.cons (.ite e b b') r) ρ σ K:=by
 show(wp W tb n e).t ρ σ λ t B4=>_
 refine Eq.mp (C7 _ ?_) h
 funext t B4
 cases t<;>rfl
theorem Jt{f:String}{C a:Addr}{fs:List (String×PV)}(he:pv σ ρ e=some x)(ho:pv σ ρ e'=some (.ref a))(hf:tb.fld C f=true)(hz:fs.length<=100)(O:aT σ a C fs)
  (k:∀dx,σ a=some (.inst C dx)->σ dx=some (.attrs C fs)->S8 W tb n r ρ (σ.set dx (.attrs C (lU f x fs))) K):S8 W tb n (.cons (.Q1 e' f e) r) ρ σ K:=by
 intros O dx hZ;delta hZ h1 h2
 exact X5 e he (X5 e' ho ⟨C,dx,fs,h1,h2,hf,hz,k dx h1 h2⟩)
theorem Jq{a:Addr}{xs:List PV}{j:Nat}(he:pv σ ρ e=some x)(ho:pv σ ρ e'=some (.ref a))(hi:pv σ ρ KD=some (.int j))(h:σ a=some (.list xs))(hj:j<xs.length)(k:S8 W tb n r ρ (σ.set a (.list (xs.set j x))) K):
  S8 W tb n (.cons (.aN e' KD e) r) ρ σ K:=by
 refine X5 e he (X5 e' ho (X5 KD hi ?_))
 show cG _ _ (σ a)
 rw[h]
 exact⟨j,rfl,hj,k⟩
theorem Pm{a:Addr}{es:List (PK×PV)}{m:Nat}{y:PV}{q:PK}(he:pv σ ρ e=some x)(ho:pv σ ρ e'=some (.ref a))(hi:pv σ ρ KD=some y)(h:σ a=some (.dict es m))(hk:keyOf y=some q)(hs:U3 q es=true)(hz:es.length<2^24)
  (k:∀m',S8 W tb n r ρ (σ.set a (.dict (putK q x es) m')) K):S8 W tb n (.cons (.aN e' KD e) r) ρ σ K:=by
 refine X5 e he (X5 e' ho (X5 KD hi ?_))
 show cG _ _ (σ a)
 rw[h]
 exact⟨q,hk,hs,hz,k⟩
theorem P2(h:pv σ ρ e=some x)(k:Q x σ):(wp W tb n e).v ρ σ Q:=X5 e h k
theorem H7{f:Value}{as:uM}{xs:List PV}{q:Nat}(h:Be σ ρ as=some xs)(k:J9 W n f xs σ Q):(wp W tb n (.call q f as)).v ρ σ Q:=MJ as h k
theorem T5{f:Value}{as:uM}{q:Nat}(k:DO W tb n as ρ σ λ xs B4=>J9 W n f xs B4 Q):(wp W tb n (.call q f as)).v ρ σ Q:=k
theorem J1{f:String}{fv:Value}{as:uM}{xs:List PV}(ho:pv σ ρ e=some v)(hm:dZ tb σ v f=some fv)(h:Be σ ρ as=some xs)(k:J9 W n fv (v::xs) σ Q):(wp W tb n (.H2 e f as)).v ρ σ Q:=X5 e ho ⟨fv,hm,MJ as h k⟩
theorem T0{f:String}{fv:Value}{as:uM}(ho:pv σ ρ e=some v)(hm:dZ tb σ v f=some fv)(k:DO W tb n as ρ σ λ xs B4=>J9 W n fv (v::xs) B4 Q):(wp W tb n (.H2 e f as)).v ρ σ Q:=X5 e ho ⟨fv,hm,k⟩
theorem zH{as:PE}{a:Addr}{xs:List PV}(ho:pv σ ρ e=some (.ref a))(ha:σ a=some (.list xs))(h:pv σ ρ as=some x)(hz:xs.length<=2^24)(k:Q .none (σ.set a (.list (xs++[x])))):(wp W tb n (.H2 e "append" (.cons as .nil))).v ρ σ Q:=
 T0 ho (N9 ha _) (X5 as h (BE ha hz k))
theorem uQ{as:uM}{xs:List PV}(h:Be σ ρ as=some xs)(k:∀c,σ c=none->Q (.ref c) (σ.set c (.list xs))):(wp W tb n (.list as)).v ρ σ Q:=MJ as h k
theorem OX(k:∀c,σ c=none->Q (.ref c) (σ.set c (.dict [] 0))):(wp W tb n .dP).v ρ σ Q:=k
theorem O6{op:Operator}(k:(wp W tb n e).v ρ σ λ x B4=>(wp W tb n e').v ρ B4 λ y H6=>mO op H6 Q x y):(wp W tb n (.bin op e e')).v ρ σ Q:=k
theorem rE{op:Operator}{y:PV}(h:pv σ ρ e=some x)(h':pv σ ρ e'=some y)(k:mO op σ Q x y):(wp W tb n (.bin op e e')).v ρ σ Q:=X5 e h (X5 e' h' k)
theorem v_sub(k:(wp W tb n e).v ρ σ λ x B4=>(wp W tb n e').v ρ B4 λ y H6=>∃z,gE H6 x y=some z∧Q z H6):(wp W tb n (.sub e e')).v ρ σ Q:=k
theorem Jc{f:String}(k:(wp W tb n e).v ρ σ λ x B4=>∃z,fld B4 x f=some z∧Q z B4):(wp W tb n (.attr e f)).v ρ σ Q:=k
theorem dM{as:uM}(k:DO W tb n as ρ σ λ xs B4=>Q (.tup xs) B4):(wp W tb n (.tup as)).v ρ σ Q:=k
theorem F9{as:uM}{Q:List PV->PH->Prop}(k:(wp W tb n e).v ρ σ λ x B4=>DO W tb n as ρ B4 λ xs H6=>Q (x::xs) H6):DO W tb n (.cons e as) ρ σ Q:=k
theorem M0{Q:List PV->PH->Prop}(k:Q [] σ):DO W tb n .nil ρ σ Q:=k
theorem DP{op:CmpOp}(k:(wp W tb n e).v ρ σ λ x B4=>(wp W tb n e').v ρ B4 λ y H6=>∃z,iR H6 op x y=some z∧Q (.bool z) H6):(wp W tb n (.cmp op e e')).v ρ σ Q:=k
theorem iD{op:CmpOp}(k:(wp W tb n e).v ρ σ λ x B4=>(wp W tb n e').v ρ B4 λ y H6=>∃z,iR H6 op x y=some z∧B z H6):(wp W tb n (.cmp op e e')).t ρ σ B:=by
 show(wp W tb n e).v ρ σ λ x B4=>(wp W tb n e').v ρ B4 λ y H6=>∃z,iR H6 op x y=some z∧∃b,zJ H6 (.bool z)=some b∧B b H6
 refine Eq.mp (C7 _ ?_) k
 funext x B4
 refine C7 _ ?_
 funext y H6
 refine propext ⟨λ⟨z,h1,h2⟩=>⟨z,h1,z,rfl,h2⟩,λ⟨z,h1,b,h2,h3⟩=>⟨z,h1,by cases h2;exact h3⟩⟩
theorem uT{t:Bool}(h:pt σ ρ e=some t)(k:B t σ):(wp W tb n e).t ρ σ B:=JC e h k
theorem VK{t:Bool}(h:pt σ ρ e=some t)(k:(wp W tb n (cond t e' KD)).v ρ σ Q):(wp W tb n (.ite e e' KD)).v ρ σ Q:=JC e h (by cases t<;>exact k)
def Fl.go:Fl->Prop
 |.next=>True
 |.cont=>True
 |_=>False
theorem Dr{V4:PH->Prop}{turn:PV->TS}{x:PV}{xs:List PV}{ρ:List PV}{σ:PH}{K:Fl->List PV->PH->Prop}
  (h:turn x ρ σ λ fl O5 B9=>match fl with
   |.next=>V4 B9∧jW V4 turn xs O5 B9 K
   |.cont=>V4 B9∧jW V4 turn xs O5 B9 K
   |.brk=>K .next O5 B9
   |.ret v=>K (.ret v) O5 B9):jW V4 turn (x::xs) ρ σ K:=h
theorem JW{α:Type}{f:α->PV}{V4:PH->Prop}{turn:PV->TS}{K:Fl->List PV->PH->Prop}(I:List α->List PV->PH->Prop)
  (he:∀l ρ σ,I l ρ σ->V4 σ->V4 σ):∀(l pre:List α) {ρ:List PV} {σ:PH},I pre ρ σ->
  (∀MM x post ρ σ (R:Fl->List PV->PH->Prop),pre++l=MM++x::post->I MM ρ σ->(∀fl O5 B9,fl.go->V4 B9->I (MM++[x]) O5 B9->R fl O5 B9)->turn (f x) ρ σ R)->
  (∀ρ σ,I (pre++l) ρ σ->K .next ρ σ)->jW V4 turn (l.map f) ρ σ K
 |[],pre,ρ,σ,h0,hs,hk=>hk ρ σ (by rw[C9];exact h0)
 |x::l,pre,ρ,σ,h0,hs,hk=>by
  rw[I6]
  refine Dr (hs pre x l ρ σ _ rfl h0 λ fl O5 B9 g s' i'=>?_)
  have Jx:jW V4 turn (l.map f) O5 B9 K:=JW I he l (pre++[x]) i' (λ p y q ρ σ R e=>hs p y q ρ σ R (by rw[<-e];simp)) (λ ρ σ q=>hk ρ σ (by simpa using q))
  cases fl<;>first|exact⟨s',Jx⟩|exact g.elim
theorem eE{α:Type}{l:List α}{f:α->PV}{V4:PH->Prop}{turn:PV->TS}{K:Fl->List PV->PH->Prop}{ρ:List PV}{σ:PH}(I:List α->List PV->PH->Prop)(h0:I [] ρ σ)
  (hs:∀pre x post ρ σ (R:Fl->List PV->PH->Prop),l=pre++x::post->I pre ρ σ->(∀fl O5 B9,fl.go->V4 B9->I (pre++[x]) O5 B9->R fl O5 B9)->turn (f x) ρ σ R)
  (hk:∀ρ σ,I l ρ σ->K .next ρ σ):jW V4 turn (l.map f) ρ σ K:=
 JW I (λ _ _ _ _ h=>h) l [] h0 (λ p x q ρ σ R e=>hs p x q ρ σ R e) hk
theorem BV{α:Type}{f:α->PV}{V4:PH->Prop}{turn:PV->PH->(Option PV->PH->Prop)->Prop}{K:List PV->PH->Prop}(I:List α->List PV->PH->Prop):∀(l pre:List α) {acc:List PV} {σ:PH},I pre acc σ->
  (∀MM x post acc σ (R:Option PV->PH->Prop),pre++l=MM++x::post->I MM acc σ->(∀y B9,V4 B9->I (MM++[x]) (match y with|some y=>acc++[y]|none=>acc) B9->R y B9)->turn (f x) σ R)->
  (∀acc σ,I (pre++l) acc σ->K acc σ)->pE V4 turn (l.map f) acc σ K
 |[],pre,acc,σ,h0,hs,hk=>hk acc σ (by rw[C9];exact h0)
 |x::l,pre,acc,σ,h0,hs,hk=>by
  rw[I6]
  exact hs pre x l acc σ _ rfl h0 λ y B9 s' i'=>⟨s',BV I l (pre++[x]) i' (λ p z q acc σ R e=>hs p z q acc σ R (by rw[<-e];simp)) (λ acc σ q=>hk acc σ (by simpa using q))⟩
theorem comp_map{α:Type}{l:List α}{f:α->PV}{V4:PH->Prop}{turn:PV->PH->(Option PV->PH->Prop)->Prop}{K:List PV->PH->Prop}{σ:PH}(I:List α->List PV->PH->Prop)(h0:I [] [] σ)
  (hs:∀pre x post acc σ (R:Option PV->PH->Prop),l=pre++x::post->I pre acc σ->(∀y B9,V4 B9->I (pre++[x]) (match y with|some y=>acc++[y]|none=>acc) B9->R y B9)->turn (f x) σ R)
  (hk:∀acc σ,I l acc σ->K acc σ):pE V4 turn (l.map f) [] σ K:=
 BV I l [] h0 (λ p x q acc σ R e=>hs p x q acc σ R e) hk
theorem wM{test:T Bool}{body:TS}{K:Fl->List PV->PH->Prop}(I:Nat->List PV->PH->Prop)
  (hs:∀m ρ σ (R:Fl->List PV->PH->Prop),I m ρ σ->(∀fl O5 B9 j,fl.go->j<m->I j O5 B9->R fl O5 B9)->test ρ σ λ b B4=>match b with|false=>K .next ρ B4|true=>body ρ B4 R):∀(f m:Nat) (ρ:List PV) (σ:PH),m<f->I m ρ σ->uP test body f ρ σ K
 |0,m,_,_,h,_=>absurd h (Z9 m)
 |f+1,m,ρ,σ,h,i=>by
  refine hs m ρ σ _ i λ fl O5 B9 j g hj i'=>?_
  have Jx:=wM (K:=K) I hs f j O5 B9 (by lia) i'
  cases fl<;>first|exact Jx|exact g.elim
theorem PM{c:PE}{I:Nat->List PV->PH->Prop}(m:Nat)(h0:I m ρ σ)
  (hs:∀m ρ σ (R:Fl->List PV->PH->Prop),I m ρ σ->(∀fl O5 B9 j,fl.go->j<m->I j O5 B9->R fl O5 B9)->(wp W tb n c).t ρ σ λ t B4=>match t with|false=>S8 W tb n r ρ B4 K|true=>S8 W tb n b ρ B4 R):
  S8 W tb n (.cons (.IB c b) r) ρ σ K:=
 ⟨m+1,wM I (K:=λ fl O5 B9=>match fl with
  |.next=>S8 W tb n r O5 B9 K
  |.brk=>K .brk O5 B9
  |.cont=>K .cont O5 B9
  |.ret v=>K (.ret v) O5 B9) hs (m+1) m ρ σ (K5 m) h0⟩
theorem oE{α:Type}{l:List α}{f:α->PV}(I:List α->List PV->PH->Prop)(h:pv σ ρ e=some v)(hv:mF σ v (l.map f))(h0:I [] ρ σ)
  (hs:∀pre x post ρ B9 (R:Fl->List PV->PH->Prop),l=pre++x::post->I pre ρ B9->(∀fl O5 B9,fl.go->M9 σ v B9->I (pre++[x]) O5 B9->R fl O5 B9)->S8 W tb n b (ρ.set i (f x)) B9 R)
  (hk:∀ρ σ,I l ρ σ->S8 W tb n r ρ σ K):S8 W tb n (.cons (.R6 i e b) r) ρ σ K:=
 X5 e h ⟨_,hv,eE I h0 hs hk⟩
theorem uY(h:(wp W tb n e).v ρ σ λ v B4=>∃xs,mF B4 v xs∧jW (M9 B4 v) (λ x ρ σ R=>S8 W tb n b (ρ.set i x) σ R) xs ρ B4 λ fl O5 B9=>match fl with
  |.next=>S8 W tb n r O5 B9 K
  |.brk=>K .brk O5 B9
  |.cont=>K .cont O5 B9
  |.ret v=>K (.ret v) O5 B9):S8 W tb n (.cons (.R6 i e b) r) ρ σ K:=h
theorem GG{α:Type}{l:List α}{f:α->List PV}{is:List Nat}(I:List α->List PV->PH->Prop)(h:pv σ ρ e=some v)(hv:mF σ v (l.map λ x=>.tup (f x)))(hl:∀x∈l,(f x).length=is.length)(h0:I [] ρ σ)
  (hs:∀pre x post ρ B9 (R:Fl->List PV->PH->Prop),l=pre++x::post->I pre ρ B9->(∀fl O5 B9,fl.go->M9 σ v B9->I (pre++[x]) O5 B9->R fl O5 B9)->S8 W tb n b (aO is (f x) ρ) B9 R)
  (hk:∀ρ σ,I l ρ σ->S8 W tb n r ρ σ K):S8 W tb n (.cons (.rT is e b) r) ρ σ K:=
 X5 e h ⟨_,hv,eE I h0 (λ pre x post ρ σ R e i k=>⟨f x,rfl,hl x (by rw[e];simp),hs pre x post ρ σ R e i k⟩) hk⟩
theorem V6{a:Addr}{xs:List PV}(h:σ a=some (.list xs))(hz:xs.length<=2^24):mF σ (.ref a) xs:=⟨by show cG _ _ (σ a)=_;rw[h];rfl,hz,trivial⟩
theorem rO{xs:List PV}(hz:xs.length<=2^24):mF σ (.tup xs) xs:=⟨rfl,hz,trivial⟩
theorem fJ{k:Nat}(hz:k<=2^24):mF σ (.rZ 0 k) ((List.range k).map λ j:Nat=>.int j):=by
 refine⟨?_,by simpa using hz,⟨?_,?_,?_⟩⟩
 ·show some ((List.range ((k:Int) - 0).toNat).map λ i:Nat=>PV.int (0+(i:Int)))=_;simp
 ·unfold IP;lia
 ·unfold IP;lia
 ·simpa using hz
theorem QM{j k:Nat}(h:j<=k)(hz:k<=2^24):mF σ (.rZ j k) ((List.range (k - j)).map λ i:Nat=>.int ((j+i:Nat):Int)):=by
 have e:((k:Int) - j).toNat=k - j:=Int.toNat_sub k j
 refine⟨?_,by simp;lia,⟨?_,?_,?_⟩⟩
 ·show some ((List.range ((k:Int) - j).toNat).map λ i:Nat=>PV.int (j+(i:Int)))=_;rw[e];simp
 ·unfold IP;lia
 ·unfold IP;lia
 ·rw[e];lia
theorem yX{a:Addr}{es:List (PK×PV)}{m:Nat}{α:Type}{l:List α}{f:α->PV}(h:σ a=some (.dict es m))(hk:es.all (λ p=>!jU p.1)=true)(e:es.map (·.1.pv)=l.map f)(hz:es.length<=2^24):mF σ (.ref a) (l.map f):=
 ⟨by show cG _ _ (σ a)=_;rw[h];exact(F7 hk).trans (C7 some e),by rw[<-e,A8];exact hz,trivial⟩
end
theorem wG(x y:Nat):Builtin.bitOr (x:Int) y=((x|||y:Nat):Int):=by
 have h (z:Nat):¬(0:Int)<=Builtin.bitNot (z:Int):=by unfold Builtin.bitNot;lia
 have k (z:Int):Builtin.bitNot (Builtin.bitNot z)=z:=by unfold Builtin.bitNot;lia
 unfold Builtin.bitOr
 rw[bitAnd_nn (h x) (h y),k,k,k]
 rfl
theorem rW(x y:Nat):Builtin.bitAnd (x:Int) y=((x&&&y:Nat):Int):=bitAnd_pp (G6 x) (G6 y)
theorem JX(x y:Nat):Int.fdiv (x:Int) y=((x/y:Nat):Int):=by rw[nZ _ (G6 y)];rfl
def bitsA:Nat->Nat->Nat->List Nat
 |0,_,_=>[]
 |f+1,at_,left=>if left=0 then[]else(if left%2=1 then[at_]else[])++bitsA f (at_+1) (left/2)
def X7(m N:Nat):List Nat:=(List.range N).filter λ k=>m/2^k%2==1
theorem RY{f a l:Nat}:bitsA (f+1) a l=if l=0 then[]else(if l%2=1 then[a]else[])++bitsA f (a+1) (l/2):=rfl
theorem bitsA_0:∀{f a:Nat},bitsA f a 0=[]
 |0,_=>rfl
 |_+1,_=>rfl
theorem KI:∀(N at_ left:Nat),left<2^N->bitsA N at_ left=(X7 left N).map (at_+·)
 |0,a,l,h=>rfl
 |N+1,a,l,h=>by
  have h2:l/2<2^N:=by rw[Nat.pow_succ]at h;lia
  have e:X7 l (N+1)=(if l%2=1 then[0]else[])++(X7 (l/2) N).map (·+1):=by
   unfold X7
   rw[aG,W1,List.filter_map]
   have:(λ k=>l/2^k%2==1)∘Nat.succ=λ k=>l/2/2^k%2==1:=by
    funext k;show(l/2^(k+1)%2==1)=_;rw[Nat.pow_succ,Nat.mul_comm,Nat.div_div_eq_div_mul]
   rw[this]
   by_cases q:l%2=1<;>simp[q]
  rw[RY]
  by_cases z:l=0
  ·clear e h2;subst z
   rw[F7 rfl]
   unfold X7
   simp
  ·rw[G0 z,KI N (a+1) (l/2) h2,e]
   by_cases q:l%2=1<;>simp[q,qI,aF,Nat.add_left_comm]
theorem CB{W:Wd}(P:dR W){n:Nat}{σ:PH}{m N:Nat}{Q:PV->PH->Prop}(hm:m<2^N)(hN:N<=64)(q:∀c B9,Ext σ B9->σ c=none->B9 c=some (.list ((X7 m N).map C0))->Q (.ref c) B9):J9 W (n+1) (.ref 80) [.int m] σ Q:=by
 refine P.fn WL 0 rfl rfl (K1 (uQ rfl λ c hc=>P3 rfl (P3 (x:=.int m) rfl (PM (I:=λ k ρ B9=>∃(at_ left:Nat) (acc:List Nat),ρ=[.int m,.ref c,.int at_,.int left]∧Ext σ B9∧k=left∧acc.length<=at_∧at_<=N∧left<2^(N - at_)∧B9 c=some (.list (acc.map C0))∧acc++bitsA (N - at_) at_ left=X7 m N) m ?_ ?_))))
 ·refine⟨0,m,[],rfl,Ext.new hc _,rfl,D7 _,K3 _,hm,PH.J7 ..,?_⟩
  rw[Nat.sub_zero,KI N 0 m hm];simp
 ·intro left ρ B9 R hQ;intros hQ at_ hZ;intros hZ _ Q0;intros Q0 acc P4;obtain⟨rfl,E,rfl,hl,ha,hb,ho,he⟩:=P4;intro hR
  refine uT (t:=decide ((0:Int)<left)) rfl ?_
  by_cases z:left=0
  ·clear hR hb;subst z
   refine X8 rfl (q c B9 E hc ?_)
   rw[ho,<-he,bitsA_0,C9]
  ·rw[H3 (by lia)]
   have Qt:N - at_≠0:=by intro e;rw[e]at hb;exact z (Nat.lt_one_iff.mp hb)
   have hs:N - at_=(N - (at_+1))+1:=(Nat.succ_pred_eq_of_ne_zero Qt).symm
   have h2:left/2<2^(N - (at_+1)):=by rw[hs,Nat.pow_succ,Nat.mul_comm]at hb;exact Nat.div_lt_of_lt_mul hb
   rw[hs]at he
   rw[RY,G0 z]at he
   have bb:Builtin.bitAnd (left:Int) 1=((left%2:Nat):Int):=by rw[show(1:Int)=((1:Nat):Int)from rfl,rW,Nat.and_one_is_mod]
   have tail:∀S7 Aq,Ext σ S7->Aq.length<=at_+1->S7 c=some (.list (Aq.map C0))->Aq++bitsA (N - (at_+1)) (at_+1) (left/2)=X7 m N->S8 W tb n (.cons (.asg 3 (.bin .RShift (.loc 3) (.int 1))) (.cons (.asg 2 (.bin .Add (.loc 2) (.int 1))) .nil)) [.int m,.ref c,.int at_,.int left] S7 R:=λ S7 Aq E' d0 LE aq=>by
    refine K1 (rE rfl rfl ⟨by decide,?_⟩)
    rw[show(2:Int)^(1:Int).toNat=((2:Nat):Int)from rfl,JX]
    refine P3 rfl (s_end (hR _ _ _ (left/2) trivial (by lia) ⟨at_+1,left/2,Aq,rfl,E',rfl,d0,Nat.lt_of_sub_ne_zero Qt,h2,LE,aq⟩))
   have ht:pt B9 [.int m,.ref c,.int at_,.int left] (.cmp .Eq (.bin .BitAnd (.loc 3) (.int 1)) (.int 1))=some (decide (left%2=1)):=by
    show some (decide (Builtin.bitAnd (left:Int) 1=1))=_
    rw[bb];exact C7 some (eO.mpr Int.natCast_inj)
   by_cases p:left%2=1
   ·rw[H3 p]at ht
    rw[F7 p]at he
    refine qM ht (N4 (zH rfl ho rfl (by simp;lia) (s_end (tail _ (acc++[at_]) (E.upd hc _) (by simp;lia) ?_ (by rw[<-he];simp)))))
    rw[PH.J7];simp
   ·rw[J8 p]at ht
    rw[G0 p]at he
    exact oC ht (tail _ acc E (by lia) ho he)
def Wc(ρ:List PV):(e:PE)->{o:Option PV//∀(σ:PH) (x:PV),o=some x->pv σ ρ e=some x}
 |.none=>⟨some .none,λ _ _ h=>h⟩
 |.int i=>⟨some (.int i),λ _ _ h=>h⟩
 |.str s=>⟨some (.str (Str.ofString s)),λ _ _ h=>h⟩
 |.loc i=>⟨XJ ρ[i]?,λ _ _ h=>h⟩
 |_=>⟨none,λ _ _ h=>no h⟩
def Mv:(b:V0)->{o:Option (String×PE×V0)//∀f e r,o=some (f,e,r)->b=.cons (.Q1 (.loc 0) f e) r}
 |.cons (.Q1 (.loc 0) f e) r=>⟨some (f,e,r),λ _ _ _ h=>by injection h with h;injection h with h1 h;injection h with h2 h3;rw[h1,h2,h3]⟩
 |_=>⟨none,λ _ _ _ h=>no h⟩
def V0.len:V0->Nat
 |.nil=>0
 |.cons _ r=>r.len+1
section
variable{W:Wd}{n:Nat}
def WG(C:Addr)(ρ:List PV):Nat->V0->List (String×PV)->Option (List (String×PV)×V0)
 |0,b,fs=>some (fs,b)
 |k+1,b,fs=>(Mv b).1.bind λ q=>if(tb.fld C q.1&&Nat.ble fs.length 20)=true then(Wc ρ q.2.1).1.bind λ x=>WG C ρ k q.2.2 (lU q.1 x fs)else none
theorem TI{σ:PH}{a:Addr}{o:PO}(h:σ a=some o):σ.set a o=σ:=by
 funext b
 by_cases e:b=a
 ·rw[e,PH.J7,h]
 ·exact PH.U0 _ _ e
theorem tC{C x dx:Addr}{ρ:List PV}{K:Fl->List PV->PH->Prop}(h0:ρ[0]? =some (.ref x))(ne:x≠dx):∀(k:Nat) (b:V0) {fs Rq:List (String×PV)} {b':V0} {σ:PH},WG C ρ k b fs=some (Rq,b')->σ x=some (.inst C dx)->σ dx=some (.attrs C fs)->S8 W tb n b' ρ (σ.set dx (.attrs C Rq)) K->S8 W tb n b ρ σ K
 |0,b,fs,Rq,b',σ,h,h1,h2,k=>by
  have h:(fs,b)=(Rq,b'):=G8 h
  have hZ:=qF h;delta hZ e1 e2
  rwa [<-e1,<-e2,TI h2]at k
 |m+1,b,fs,Rq,b',σ,h,h1,h2,k=>MK (o:=(Mv b).1) (f:=λ q:String×PE×V0=>if(tb.fld C q.1&&Nat.ble fs.length 20)=true then(Wc ρ q.2.1).1.bind λ x=>WG C ρ m q.2.2 (lU q.1 x fs)else none) h λ q hq h=>by
  by_cases c:(tb.fld C q.1&&Nat.ble fs.length 20)=true
  ·rw[F7 c]at h
   have hZ:=F0.mp c;delta hZ c1 c2
   rw[(Mv b).2 q.1 q.2.1 q.2.2 hq]
   refine MK h λ v e1 e2=>Jt ((Wc ρ q.2.1).2 σ v e1) (WS h0 rfl) c1 (A9 (C3 c2) (by decide)) ⟨dx,h1,h2⟩ λ cv h3 _=>?_
   have e:dx=cv:=by rw[h1]at h3;injection h3 with h3;injection h3
   rw[<-e]
   exact tC h0 ne m _ e2 (by rw[PH.U0 _ _ ne];exact h1) (PH.J7 ..) (by rw[PH.set_set];exact k)
  ·rw[G0 c]at h;exact no h
theorem tW(P:dR W)(r:O9)(i j:Nat)(h:rows[i]? =some r){C:Addr}(hi:EV[j]? =some (C,r.a)){σ:PH}{args O5:List PV}{fs:List (String×PV)}{Q:PV->PH->Prop}(hf:∀x,r.frame (.ref x::args)=some (.ref x::O5))
  (hr:∀x,WG C (.ref x::O5) r.b.len r.b []=some (fs,.nil))(q:∀x B9,Ext σ B9->σ x=none->aT B9 x C fs->Q (.ref x) B9):J9 W (n+2) (.ref C) args σ Q:=
 P.cls j hi λ x dx ne hx Nv=>P.Uk r i h (hf x) (tC (C:=C) (dx:=dx) (x:=x) rfl ne _ _ (hr x) (PH.J7 ..) (by rw[PH.U0 _ _ (hM ne)];exact PH.J7 ..)
  ⟨rfl,q x _ (((Ext.new Nv _).upd hx _).upd Nv _) hx ⟨dx,by rw[PH.U0 _ _ ne];exact PH.J7 ..,PH.J7 ..⟩⟩)
end
theorem U8{σ B9:PH}(E:Ext σ B9){v x:PV}{f:String}(h:fld σ v f=some x):fld B9 v f=some x:=YG (C:=λ v=>fld B9 v f=some x) h λ a D dx fs e e' hl=>by
 show lD none _ (B9 a)=_
 rw[E _ _ e]
 show tS none _ (B9 dx)=_
 rw[E _ _ e']
 exact(F7 rfl).trans hl
theorem XE{σ B9:PH}(E:Ext σ B9){a:Addr}{f:String}{m:Value}(h:dZ tb σ (.ref a) f=some m):dZ tb B9 (.ref a) f=some m:=
 AT (P:=λ o=>σ a=o->dZ tb B9 (.ref a) f=some m) (σ a) h
  (λ h e=>lE (P:=λ o=>σ a=o->dZ tb B9 (.ref a) f=some m) (σ a) h (λ h e=>dC (P:=λ o=>σ a=o->dZ tb B9 (.ref a) f=some m) (σ a) h no (λ xs h e=>by show lD _ _ (B9 a)=_;rw[E _ _ e];exact h) e)
   (λ es ep h e=>by show lD _ _ (B9 a)=_;rw[E _ _ e];exact h) e)
  (λ C dx h e=>AU (P:=λ o=>σ dx=o->dZ tb B9 (.ref a) f=some m) (σ dx) h no (λ D fs h e'=>by show lD _ _ (B9 a)=_;rw[E _ _ e];show tS _ _ (B9 dx)=_;rw[E _ _ e'];exact h) rfl) rfl
structure Rl where
 left:Nat
 right:List Nat
structure Gr where
 names:List Str
 tc:Nat
 rules:List Rl
def Gr.off(G:Gr)(i:Nat):Nat:=((G.rules.take i).map λ r=>r.right.length+1).sum
def gQ:List Rl->Nat->List Nat
 |[],_=>[]
 |r::q,i=>List.replicate (r.right.length+1) i++gQ q (i+1)
def Gr.aS(G:Gr):List Nat:=gQ G.rules 0
def Gr.JM(G:Gr):List Nat:=(List.range G.rules.length).map G.off
def Gr.of(G:Gr)(s:Nat):List Nat:=(List.range G.rules.length).filter λ i=>(G.rules[i]?.map (·.left))==some s
structure Gr.It(G:Gr)(item i:Nat)(r:Rl)(d:Nat):Prop where
 rule:G.rules[i]? =some r
 dot:d<=r.right.length
 at_:item=G.off i+d
theorem pS{r:Rl}{q:List Rl}{i:Nat}:gQ (r::q) i=List.replicate (r.right.length+1) i++gQ q (i+1):=rfl
theorem EL:∀(l:List Rl) (k i d:Nat) (r:Rl),l[i]? =some r->d<=r.right.length->(gQ l k)[((l.take i).map λ r=>r.right.length+1).sum+d]? =some (k+i)
 |[],_,_,_,_,h,_=>by simp at h
 |x::q,k,0,d,r,h,hd=>by
  have h:x=r:=by simpa using h
  subst h
  rw[pS]
  rw[I4 (by simp;omega),gM,F7 (by simp;omega)]
  rfl
 |x::q,k,i+1,d,r,h,hd=>by
  rw[pS]
  have:=EL q (k+1) i d r (by simpa using h) hd
  rw[List.take_succ_cons,I6,qY,N2 (by rw[K8,kD];exact J6 ..),K8]
  rw[show x.right.length+1+((q.take i).map λ r=>r.right.length+1).sum+d - (x.right.length+1)=((q.take i).map λ r=>r.right.length+1).sum+d from by rw[kD,W0],this]
  exact C7 some (qX k i)
theorem Gr.It.own{G:Gr}{item i d:Nat}{r:Rl}(h:G.It item i r d):G.aS[item]? =some i:=by
 have:=EL G.rules 0 i d r h.rule h.dot
 rw[h.at_];rw[Y4]at this;exact this
theorem EK:∀(l:List Rl) (k m:Nat),m<(gQ l k).length->∃i r d,l[i]? =some r∧d<=r.right.length∧m=((l.take i).map λ r=>r.right.length+1).sum+d
 |[],_,m,h=>absurd h (Z9 _)
 |x::q,k,m,h=>by
  rw[pS,B0,K8]at h
  by_cases c:m<x.right.length+1
  ·exact⟨0,x,m,rfl,by omega,by simp⟩
  ·refine ee3.e (EK q (k+1) (m - (x.right.length+1)) (by omega)) λ i r d hZ=>?_;delta hZ h1 h2 h3
   refine⟨i+1,r,d,by simpa using h1,h2,?_⟩
   rw[List.take_succ_cons,I6,qY];omega
theorem Gr.Qo{G:Gr}{m:Nat}(h:m<G.aS.length):∃i r d,G.It m i r d:=let⟨i,r,d,a,b,c⟩:=EK G.rules 0 m h;⟨i,r,d,a,b,c⟩
def aC(σ:PH)(a i:Nat)(r:Rl):Prop:=∃l:Int,aT σ a 99 [("number",C0 i),("left",C0 r.left),("right",.tup (r.right.map C0)),("level_of",.int l),("action",.none),("line",.int 0),("before",.int 0)]
theorem aC.ext{σ B9:PH}(E:Ext σ B9){a i:Nat}{r:Rl}(h:aC σ a i r):aC B9 a i r:=let⟨l,o⟩:=h;⟨l,o.ext E⟩
theorem aC.number{σ:PH}{a i:Nat}{r:Rl}(h:aC σ a i r):fld σ (.ref a) "number"=some (C0 i):=let⟨l,o⟩:=h;o.fld _
theorem aC.left{σ:PH}{a i:Nat}{r:Rl}(h:aC σ a i r):fld σ (.ref a) "left"=some (C0 r.left):=let⟨l,o⟩:=h;o.fld _
theorem aC.right{σ:PH}{a i:Nat}{r:Rl}(h:aC σ a i r):fld σ (.ref a) "right"=some (.tup (r.right.map C0)):=let⟨l,o⟩:=h;o.fld _
theorem aC.level{σ:PH}{a i:Nat}{r:Rl}(h:aC σ a i r):∃l:Int,fld σ (.ref a) "level_of"=some (.int l):=let⟨l,o⟩:=h;⟨l,o.fld _⟩
abbrev refs(l:List Addr):List PV:=l.map .ref
def Rows(σ:PH)(l:List Addr)(n:Nat)(f:Nat->List PV):Prop:=l.length=n∧∀i a,l[i]? =some a->σ a=some (.list (f i))
theorem Rows.ext{σ B9:PH}(E:Ext σ B9){l:List Addr}{n:Nat}{f:Nat->List PV}(h:Rows σ l n f):Rows B9 l n f:=⟨h.1,λ i a e=>E _ _ (h.2 i a e)⟩
structure qA(σ:PH)(g:Addr)(G:Gr):Prop where
 names:∃a,fld σ (.ref g) "names"=some (.ref a)∧σ a=some (.list (G.names.map .str))
 tc:fld σ (.ref g) "terminal_count"=some (C0 G.tc)
 rules:∃a ra,fld σ (.ref g) "rules"=some (.ref a)∧σ a=some (.list (refs ra))∧ra.length=G.rules.length∧∀i b r,ra[i]? =some b->G.rules[i]? =some r->aC σ b i r
 levels:∃a m,fld σ (.ref g) "levels"=some (.ref a)∧σ a=some (.dict [] m)
 expect:fld σ (.ref g) "expect"=some .none
 Fz:∃a ra,fld σ (.ref g) "by_left"=some (.ref a)∧σ a=some (.list (refs ra))∧Rows σ ra G.names.length λ s=>(G.of s).map C0
 JM:∃a,fld σ (.ref g) "offsets"=some (.ref a)∧σ a=some (.list (G.JM.map C0))
 aS:∃a,fld σ (.ref g) "owners"=some (.ref a)∧σ a=some (.list (G.aS.map C0))
 H2:∀f m,(f,m)∈[("symbol_count",122),("is_terminal",129),("rules_of",150),("item",157),("rule_of",164),("dot_of",171),("after",178)]->dZ tb σ (.ref g) f=some (.ref m)
theorem qA.ext{σ B9:PH}(E:Ext σ B9){g:Addr}{G:Gr}(h:qA σ g G):qA B9 g G where
 names:=let⟨a,x,y⟩:=h.names;⟨a,U8 E x,E _ _ y⟩
 tc:=U8 E h.tc
 rules:=let⟨a,ra,x,y,z,w⟩:=h.rules;⟨a,ra,U8 E x,E _ _ y,z,λ i b r p q=>(w i b r p q).ext E⟩
 levels:=let⟨a,m,x,y⟩:=h.levels;⟨a,m,U8 E x,E _ _ y⟩
 expect:=U8 E h.expect
 Fz:=let⟨a,ra,x,y,z⟩:=h.Fz;⟨a,ra,U8 E x,E _ _ y,z.ext E⟩
 JM:=let⟨a,x,y⟩:=h.JM;⟨a,U8 E x,E _ _ y⟩
 aS:=let⟨a,x,y⟩:=h.aS;⟨a,U8 E x,E _ _ y⟩
 H2:=λ f m e=>XE E (h.H2 f m e)
theorem qA.rule{σ:PH}{g:Addr}{G:Gr}(h:qA σ g G){i:Nat}{r:Rl}(e:G.rules[i]? =some r):∃a ra b,fld σ (.ref g) "rules"=some (.ref a)∧σ a=some (.list (refs ra))∧(refs ra)[i]? =some (.ref b)∧aC σ b i r:=by
 refine ee2.e (h.rules) λ a ra hZ=>?_;delta hZ x y z w
 have hi:=(D3.mp e).1
 have hb:ra[i]? =some ra[i]:=C4 (by omega)
 exact⟨a,ra,ra[i],x,y,by rw[H9,hb];rfl,w i _ r hb e⟩
theorem QC{G:Gr}{i:Nat}(hi:i<G.rules.length):(G.JM.map C0)[i]? =some (C0 (G.off i)):=by unfold Gr.JM;rw[H9,H9,bX hi];rfl
theorem MT{G:Gr}{m i d:Nat}{r:Rl}(h:G.It m i r d):(G.aS.map C0)[m]? =some (C0 i):=by rw[H9,h.own];rfl
section
variable{W:Wd}(P:dR W){n:Nat}{σ:PH}{g:Addr}{G:Gr}(hG:qA σ g G){Q:PV->PH->Prop}
include P hG
theorem pF(q:Q (C0 G.names.length) σ):J9 W (n+1) (.ref 122) [.ref g] σ Q:=
 let⟨_,x,y⟩:=hG.names
 P.fn dY 3 rfl (ρ:=[.ref g]) rfl (X8 (V8 (D8 rfl x) (len_list y (A8 ..))) q)
theorem jZ{s:Nat}(q:Q (.bool (decide (s<G.tc))) σ):J9 W (n+1) (.ref 129) [.ref g,C0 s] σ Q:=
 P.fn eY 4 rfl (ρ:=[.ref g,C0 s]) rfl (X8 (WT rfl (D8 rfl hG.tc) (C7 some (eO.mpr T7))) q)
theorem BZ{s:Nat}(hs:s<G.names.length)(hz:G.rules.length<=64)(q:∀c B9,Ext σ B9->σ c=none->B9 c=some (.list ((G.of s).map C0))->Q (.ref c) B9):J9 W (n+1) (.ref 150) [.ref g,C0 s] σ Q:=by
 refine ee2.e (hG.Fz) λ a ra hZ=>?_;obtain⟨x,y,z,w⟩:=hZ
 have hb:ra[s]? =some (ra[s]'(z.symm▸hs)):=C4 _
 refine P.fn iG 5 rfl (ρ:=[.ref g,C0 s]) rfl (W3 (H7 (p1 (I8 (D8 rfl x) rfl (I0 y (by rw[H9,hb];rfl)))) (pH (w s _ hb) ?_ λ c hc=>q c _ (Ext.new hc _) hc (PH.J7 ..))))
 rw[A8]
 exact A9 (H4 ..) (by rw[D9];exact A9 hz (by decide))
theorem NX{i d:Nat}(hi:i<G.rules.length)(q:Q (C0 (G.off i+d)) σ):J9 W (n+1) (.ref 157) [.ref g,C0 i,C0 d] σ Q:=
 let⟨_,x,y⟩:=hG.JM
 P.fn oN 6 rfl (ρ:=[.ref g,C0 i,C0 d]) rfl (X8 (x:=C0 (G.off i+d)) (jK (I8 (D8 rfl x) rfl (I0 y (QC hi))) rfl rfl) q)
theorem lM{m i d:Nat}{r:Rl}(h:G.It m i r d)(q:Q (C0 i) σ):J9 W (n+1) (.ref 164) [.ref g,C0 m] σ Q:=
 let⟨_,x,y⟩:=hG.aS
 P.fn jJ 7 rfl (ρ:=[.ref g,C0 m]) rfl (X8 (I8 (D8 rfl x) rfl (I0 y (MT h))) q)
omit P in
theorem Hj{ρ:List PV}{e:PE}{m i d:Nat}{r:Rl}(h:G.It m i r d)(h0:pv σ ρ (.loc 0)=some (.ref g))(h1:pv σ ρ e=some (C0 m)):pv σ ρ (.bin .Sub e (.sub (.attr (.loc 0) "offsets") (.sub (.attr (.loc 0) "owners") e)))=some (C0 d):=
 let⟨_,x,y⟩:=hG.aS
 let⟨_,x2,y2⟩:=hG.JM
 jK h1 (I8 (D8 h0 x2) (I8 (D8 h0 x) h1 (I0 y (MT h))) (I0 y2 (QC (D3.mp h.rule).1))) (C7 (λ z=>some (PV.int z)) (by have:=h.at_;omega))
theorem CA{m i d:Nat}{r:Rl}(h:G.It m i r d)(q:Q (C0 d) σ):J9 W (n+1) (.ref 171) [.ref g,C0 m] σ Q:=
 P.fn kW 8 rfl (ρ:=[.ref g,C0 m]) rfl (X8 (Hj hG h rfl rfl) q)
def OH(r:Rl)(d:Nat):Int:=match r.right[d]? with
 |some s=>s
 |none=> -1
theorem zD{m i d:Nat}{r:Rl}(h:G.It m i r d)(q:Q (.int (OH r d)) σ):J9 W (n+1) (.ref 178) [.ref g,C0 m] σ Q:=by
 refine A0 (hG.aS) λ _ hZ=>?_;delta hZ x y
 refine ee3.e (hG.rule h.rule) λ _ _ _ hZ=>?_;delta hZ x3 y3 z3 hr
 refine P.fn nG 9 rfl (ρ:=[.ref g,C0 m,.M7,.M7]) rfl (P3 (D8 (I8 (D8 rfl x3) (I8 (D8 rfl x) rfl (I0 y (MT h))) (I0 y3 z3)) hr.right) (P3 (x:=C0 d) (Hj hG h rfl rfl) (W3 (VK (t:=decide ((d:Int)<(r.right.length:Int))) (N3 rfl (V8 rfl (pV (A8 ..))) rfl) ?_))))
 unfold OH at q
 cases e:r.right[d]? with
 |none=>
  rw[e]at q
  rw[J8 (Int.not_lt.mpr (Int.ofNat_le.mpr (eV.mp e)))]
  exact P2 rfl q
 |some s=>
  rw[e]at q
  rw[H3 (T7.mpr (D3.mp e).1)]
  exact P2 (x:=C0 s) (I8 rfl rfl (fQ (by rw[H9,e];rfl))) q
end
def dU(l:List Nat):List Nat:=l.mergeSort λ a b=>decide (a<=b)
theorem N8(l:List Nat):(dU l).Perm l:=List.mergeSort_perm ..
theorem FZ(l:List Nat):(dU l).Pairwise (·<=·):=(List.pairwise_mergeSort (le:=λ a b:Nat=>decide (a<=b)) (λ a b c h1 h2=>by simp only[P8]at*;lia) (λ a b=>by simp only[Bool.or_eq_true,P8];lia) l).imp λ h=>D0 h
theorem GB{l k:List Nat}(h:k.Perm l)(p:k.Pairwise (·<=·)):k=dU l:=List.Perm.eq_of_pairwise (λ a b _ _ h1 h2=>Nat.le_antisymm h1 h2) p (FZ l) (h.trans (N8 l).symm)
theorem intsAre_of{h:Heap}:∀{ns:List Int} {vs:List Value},bP h (ns.map .int) vs->IntsAre vs ns
 |[],vs,r=>by cases r;exact .nil
 |y::q,vs,r=>by cases r with|cons a b=>cases a;exact .cons _ _ (intsAre_of b)
section
variable{W:Wd}{n:Nat}{σ:PH}{Q:PV->PH->Prop}
theorem uV{A:Around}{s:Shared}{v:Value}{ns:List Nat}(S:SR W σ s.heap)(LH:ns.length<64)
  (hc:∀R:List Value->Shared->Prop,(∀vs h' tk,IntsAre vs (ns.map Int.ofNat)->(∀b o,s.heap.get? b=some o->h'.get? b=some o)->R vs {s with heap:=h',toks:=tk})->wpAny W.M A.in1 (collect v) R (λ _ _=>False) s)
  (q:∀c,σ c=none->Q (.ref c) (σ.set c (.list ((dU ns).map C0)))):wpAny W.M A (call (.builtin "sorted") [v]) (K4 W σ s Q) (λ _ _=>False) s:=by
 refine Calls.call_function_entry kind_sorted plain_sorted entry_sorted (args_sorted1 _) ?_
 unfold Builtin.«sorted»
 refine B6 (m:=checkCount "sorted" 1 1 _) (D4 ?_)
 refine B6 (hc _ λ vs h' tk hI kp=>?_)
 have hl:vs.length=ns.length:=by have:=hI.length;simpa using this
 refine B6 (wpAny_newList ?_ (by rw[K0];lia))
 have Lf:(h'.push (seqObj "list" vs.toArray 0)).get? h'.objs.size=some (seqObj "list" vs.toArray 0):=N6 _ rfl
 have fr:s.heap.get? h'.objs.size=none:=by
  cases e:s.heap.get? h'.objs.size with
  |none=>rfl
  |some o=>exact absurd (kM (kp _ _ e)) (Nat.lt_irrefl _)
 refine B6 (K2 (cY slot_list_sort ⟨_,Lf,rfl⟩ entry_list_sort (list_sort_tree (s:={s with heap:=h'.push (seqObj "list" vs.toArray 0),toks:=tk}) Lf hI (by lia) λ out yR a1 a2 a3=>⟨_,rfl,?_⟩) (args_list_sort _)))
 refine D4 ⟨_,rfl,?_⟩
 refine A0 (sortedHeap_at (out:=out) Lf) λ e he=>?_
 clear hI hc hl Lf v;obtain⟨k,rfl⟩:∃k:List Nat,yR=k.map Int.ofNat:=by
  have:∀z∈yR,∃m:Nat,z=Int.ofNat m:=λ z hz=>by
   refine A0 (D2.mp (a2.mem_iff.mp hz)) λ m hZ=>?_;delta hZ hZ h;exact⟨m,h.symm⟩
  clear a1 a2 a3
  induction yR with
  |nil=>exact⟨[],rfl⟩
  |cons z r ih=>
   refine A0 (this z (.head _)) λ m hZ=>?_;obtain rfl:=hZ
   refine A0 (ih λ y hy=>this y (.tail _ hy)) λ k hZ=>?_;clear ih;obtain rfl:=hZ
   exact⟨m::k,rfl⟩
 have back:∀l:List Nat,(l.map Int.ofNat).map Int.toNat=l:=λ l=>by rw[G2];exact gL _
 have ek:k=dU ns:=GB (by have:=a2.map Int.toNat;rwa [back,back]at this) (X4.mp a3|>.imp λ h=>Int.ofNat_le.mp h)
 clear A a2 a3 back;subst ek
 have QI:∀b o,s.heap.get? b=some o->(sortedHeap (h'.push (seqObj "list" vs.toArray 0)) h'.objs.size vs out).get? b=some o:=λ b o e=>by
  have h1:=kp b o e
  have lt:=kM h1
  rw[sortedHeap_old (U6 lt) (by rw[size_push'];exact dJ lt)]
  exact Q4 _ h1
 have hv:=Top.II (h:=sortedHeap (h'.push (seqObj "list" vs.toArray 0)) h'.objs.size vs out) a1
 rw[G2]at hv
 have:out=out.toList.toArray:=by simp
 rw[this]at he
 exact K4.made (o:=.list ((dU ns).map C0)) S QI fr he (.list hv (by rw[A8,(N8 ns).length_eq];lia)) q
theorem dE{a:Addr}{ns:List Nat}(e:σ a=some (.list (ns.map C0)))(LH:ns.length<64)(q:∀c,σ c=none->Q (.ref c) (σ.set c (.list ((dU ns).map C0)))):J9 W n (.builtin "sorted") [.ref a] σ Q:=LI λ A s v rm S r=>by
 cases r
 refine ee2.e (S.list e) λ vs k hZ=>?_;delta hZ e1 r1 z
 have hI:IntsAre vs (ns.map Int.ofNat):=intsAre_of (h:=s.heap) (by rw[G2];exact r1)
 have l:=hI.length
 rw[A8]at l
 exact uV S LH (λ R hR=>wpAny_collect_seq a (.inl rfl) e1 rfl rfl (λ h' kp=>hR _ h' s.toks hI kp) (by rw[H1,K0];lia)) q
theorem HQ{ns:List Nat}(LH:ns.length<64)(q:∀c,σ c=none->Q (.ref c) (σ.set c (.list ((dU ns).map C0)))):J9 W n (.builtin "sorted") [.tup (ns.map C0)] σ Q:=LI λ A s v rm S r=>by
 cases r with
 |@tup _ a vs ht r1 hz=>
  have hI:IntsAre vs (ns.map Int.ofNat):=intsAre_of (h:=s.heap) (by rw[G2];exact r1)
  have l:=hI.length
  rw[A8]at l
  intros ht o hZ;generalize hZ.1=ho;generalize hZ.2=P4;generalize P4.1=hc;refine A0 P4.2 λ k hd=>?_;try clear P4;try clear hZ
  exact uV S LH (λ R hR=>wpAny_collect_seq a (.inr rfl) ho hc hd (λ h' kp=>hR _ h' s.toks hI kp) (by rw[H1,K0];lia)) q
theorem fO{W:Wd}(hW:W.Ok){a:Addr}{es:List (PK×PV)}{m:Nat}{ns:List Nat}(e:σ a=some (.dict es m))(hk:es.map (·.1)=ns.map λ k:Nat=>PK.int k)(LH:ns.length<64)(q:∀c,σ c=none->Q (.ref c) (σ.set c (.list ((dU ns).map C0)))):J9 W n (.builtin "sorted") [.ref a] σ Q:=LI λ A s v rm S r=>by
 cases r
 refine A0 (S.dict e) λ ob hZ=>?_;delta hZ e1 r1
 have hs:U3 (.int 0) es=true:=by
  simp only[U3,G3]
  intro p hp
  have:=J2 (f:=(·.1)) hp
  rw[hk]at this
  refine A0 (D2.mp this) λ k hZ=>?_;delta hZ hZ aj
  rw[<-aj];rfl
 refine ee2.e (r1.Pd hs) λ ds kvs hZ=>?_;obtain rfl:=hZ.1;delta hZ hZ kv ko pr nd
 have Di:Heap.DictAt W.ik s.heap a kvs m:=⟨_,ds,e1,⟨rfl,rfl,rfl⟩,rfl,ko,pr,nd⟩
 have ek:kvs.map (·.1)=ns.map Int.ofNat:=by
  have:es.map (·.1)=(kvs.map (·.1)).map PK.int:=by
   clear Di nd pr ko e1 r1 hk hs e
   induction kv with
   |nil=>rfl
   |cons a b ih=>simp[ih]
  rw[hk]at this
  have h2:=C7 (List.map λ k:PK=>match k with|.int i=>i|_=>0) this
  simp only[G2]at h2
  exact(h2.trans (by simp[qI])).symm
 have l:=C7 List.length ek
 rw[A8,A8]at l
 refine uV S LH (λ R hR=>kdu_collect (kdl_dict (knd:=W.ik) (kvs:=kvs) (ep:=m) (hW.vQ S e)) rm.hd Di (by rw[K0];lia) λ h' tk acc kp hi=>hR _ h' tk ?_ kp) q
 rw[<-ek]
 delta hi z hz
 have gen:∀(vs:List Value) (ks:List (Int×Value)),vs.length=ks.length->(∀(j:Nat) (v:Value),vs[j]? =some v->∃k,∃x,And (ks[j]? =some (k,x)) (W.ik.is k v=true))->IntsAre vs (ks.map (·.1)):=by
  intro vs
  clear S e ek LH hR hW Di hk hs ko kp kv l nd pr q r1 rm tk;induction vs with
  |nil=>intro ks h _;cases ks with|nil=>exact .nil|cons=>cases h
  |cons v vs ih=>
   intro ks h hp
   cases ks with
   |nil=>cases h
   |cons p ks=>
    refine A0 (hp 0 v rfl) λ k hZ=>?_;intros hZ x Q0;delta Q0 e1 e2
    cases e1
    have:=ih ks (by simpa using h) λ j u hj=>hp (j+1) u hj
    refine A0 (Value.isInt_shape e2) λ t hZ=>?_;clear e1 e2 h hp ih m s;obtain rfl:=hZ
    exact .cons k t this
 exact gen acc.toList kvs (by rw[bZ,z]) λ j v hj=>hz j v (by rw[<-Array.getElem?_toList];exact hj)
end
def RH{α:Type}(c:Nat->Nat->Bool):KasT α->α
 |.ret a=>a
 |.ask i j k=>RH c (k (c i j))
def Bd(n:Nat){α:Type}(Q:α->Prop):KasT α->Prop
 |.ret a=>Q a
 |.ask i j k=>i<n∧j<n∧∀b,Bd n Q (k b)
section
variable{n:Nat}{α β:Type}
theorem Bd.bind{f:α->KasT β}{Q:β->Prop}:∀{t:KasT α},Bd n (λ a=>Bd n Q (f a)) t->Bd n Q (t.bind f)
 |.ret _,h=>h
 |.ask _ _ k,h=>⟨h.1,h.2,λ b=>Bd.bind (h.3 b)⟩
theorem Bd.mono{Q R:α->Prop}(hq:∀a,Q a->R a):∀{t:KasT α},Bd n Q t->Bd n R t
 |.ret a,h=>hq a h
 |.ask _ _ k,h=>⟨h.1,h.2,λ b=>Bd.mono hq (h.3 b)⟩
theorem Bd.ite{c:Prop}[Decidable c]{Q:α->Prop}{t u:KasT α}(h:Bd n Q t)(h':Bd n Q u):Bd n Q (if c then t else u):=by split;exact h;exact h'
theorem Bd.ev{c:Nat->Nat->Bool}{Q:α->Prop}:∀{t:KasT α},Bd n Q t->Q (RH c t)
 |.ret _,h=>h
 |.ask i j k,h=>Bd.ev (t:=k (c i j)) (h.3 (c i j))
theorem Bd.cg{c d:Nat->Nat->Bool}(e:∀i j,i<n->j<n->c i j=d i j){Q:α->Prop}:∀{t:KasT α},Bd n Q t->RH c t=RH d t
 |.ret _,_=>rfl
 |.ask i j k,h=>(C7 (λ b=>RH c (k b)) (e i j h.1 h.2)).trans (Bd.cg e (h.3 (d i j)))
theorem Bd.wp{c:Nat->Nat->Bool}{cmp:Nat->Nat->(Bool->Shared->Prop)->Shared->Prop}{Q:α->Prop}{G:α->Shared->Prop}{s:Shared}(hc:∀i j C,i<n->j<n->C (c i j) s->cmp i j C s):∀{t:KasT α},Bd n Q t->G (RH c t) s->t.kasWp cmp G s
 |.ret _,_,h=>h
 |.ask i j k,b,h=>hc i j _ b.1 b.2 (Bd.wp hc (b.3 (c i j)) h)
structure Al(n:Nat)(p:Array Nat):Prop where
 z:0<n
 a:∀x∈p,x<n
variable{p:Array Nat}
theorem Al.g(h:Al n p){i:Nat}:p.getD i 0<n:=by
 rw[Array.getD_eq_getD_getElem?]
 cases e:p[i]? with
 |none=>exact h.z
 |some x=>exact h.a x (Array.mem_of_getElem? e)
theorem Al.pm{q:Array Nat}(h:Al n p)(e:q.Perm p):Al n q:=⟨h.z,λ x hx=>h.a x (e.mem_iff.mp hx)⟩
theorem Al.rv(h:Al n p){i j:Nat}:Al n (kas_rev p i j):=h.pm (mirror_perm ..)
theorem OF(h:Al n p):∀f m:Nat,Bd n (λ _=>True) (kas_asc p f m)
 |0,_=>trivial
 |f+1,m=>⟨h.g,h.g,λ _=>.ite trivial (OF h f (m+1))⟩
theorem zE:∀(f:Nat) {p:Array Nat} (m q:Nat),Al n p->Bd n (λ r=>Al n r.1) (kas_desc f p m q)
 |0,_,_,_,h=>h
 |f+1,_,m,q,h=>⟨h.g,h.g,λ _=>.ite (.ite (zE f _ _ h.rv) (zE f _ _ h)) ⟨h.g,h.g,λ _=>.ite h (zE f _ _ h)⟩⟩
theorem RZ(h:Al n p)(a b:Nat):Bd n (λ r=>Al n r.2) (kas_tail3 a b p):=.bind ((OF h.rv _ _).mono λ _ _=>h.rv)
theorem SB(h:Al n p)(a b:Nat):Bd n (λ r=>Al n r.2) (kas_descPart a b p):=.bind ((zE _ _ _ h).mono λ _ h=>.ite (RZ h.rv _ _) (RZ h _ _))
theorem Ae(h:Al n p)(b:Nat):Bd n (λ r=>Al n r.2) (kas_count b p):=.bind ((OF h _ _).mono λ _ _=>.ite h (.ite ⟨h.g,h.g,λ _=>.ite h (SB h.rv _ _)⟩ (SB h _ _)))
theorem CD(h:Al n p)(k:Nat):∀f l r:Nat,Bd n (λ _=>True) (kas_place p k f l r)
 |0,_,_=>trivial
 |f+1,l,r=>.ite trivial ⟨h.g,h.g,λ _=>.ite (CD h k f _ _) (CD h k f _ _)⟩
theorem Af:∀(f:Nat) {p:Array Nat} (k:Nat),Al n p->Bd n (Al n) (kas_bin f p k)
 |0,_,_,h=>h
 |f+1,_,k,h=>.bind ((CD h k k 0 k).mono λ l _=>Af f (k+1) (h.pm (bubble_perm ..)))
theorem HP(h:0<n):Bd n (Al n) (kas_sort n):=.bind ((Ae ⟨h,λ x hx=>N1.mp (List.mem_toArray.mp hx)⟩ n).mono λ _ h=>.ite (Af _ _ h) h)
end
def sF{α:Type}(d:α)(c:Nat->Nat->Bool)(xs:List α):List α:=if xs.length<2 then xs else(RH c (kas_sort xs.length)).toList.map λ i=>xs.getD i d
section
variable{W:Wd}{A:Around}
theorem Bs{α β:Type}{c:Prop}[Decidable c]{g:α}{m:Sem α}{F:α->Sem β}{R:α->Shared->Prop}{P:β->Shared->Prop}{E:Value->Shared->Prop}{s:Shared}(h1:c->R g s)(h2:¬c->wpAny W.M A m R (λ _ _=>False) s)(k:∀x s',R x s'->wpAny W.M A (F x) P E s'):wpAny W.M A (if c then(pure g>>=F)else(m>>=F)) P E s:=by
 by_cases h:c
 ·rw[F7 h];exact B6 (D4 (k _ _ (h1 h)))
 ·rw[G0 h];exact B6 (I7 (h2 h) k λ _ _ e=>e.elim)
theorem VV{s:Shared}{a:Addr}{vs:List Value}{k:Nat}(ho:s.heap.get? a=some (seqObj "list" vs.toArray k))(LH:vs.length<64){c:Nat->Nat->Bool}{P:PySem.Fin->Shared->Prop}
  (hk:2<=vs.length->∃κ,∀h',(∀b o,b≠a->s.heap.get? b=some o->h'.get? b=some o)->(∀R:SortKind->Shared->Prop,R κ {s with heap:=h'}->wpAny W.M A (keyKind' vs.toArray) R (λ _ _=>False) {s with heap:=h'})∧
   ∀i j (C:Bool->Shared->Prop),i<vs.length->j<vs.length->C (c i j) {s with heap:=h'}->wpAny W.M A (keyLt' κ (vs.getD i .none) (vs.getD j .none)) C (λ _ _=>False) {s with heap:=h'})
  (q:∀h' k',(∀b o,b≠a->s.heap.get? b=some o->h'.get? b=some o)->(sF Value.none c vs).length=vs.length->h'.get? a=some (seqObj "list" (sF Value.none c vs).toArray k')->P (.done (.ret .none)) {s with heap:=h'}):
  wpAny W.M A (Builtin.«list.sort» ⟨[.ref a],[]⟩) P (λ _ _=>False) s:=by
 rw[list_sort_plain]
 have ha:a<s.heap.objs.size:=kM ho
 have hsz:vs.toArray.size=vs.length:=by simp
 refine B6 (listItems_at ho rfl ?_)
 refine B6 (listUpdate_at ho rfl ?_ (by rw[hsz,K0];lia) (K3 _))
 obtain⟨e1,b5⟩:∃e1,(s.heap.update a (Obj.mapSeq λ _=>(#[]:Array Value))).get? a=some (seqObj "list" #[] e1):=⟨_,get?_update_seq ho λ _=>#[]⟩
 refine B6 (seqEpoch_at b5 rfl ?_)
 refine B6 (wpAny_newTuple ?_ (by show vs.length<=_;rw[K0];lia))
 refine B6 (wpAny_newList ?_ (K3 _))
 refine K2 ?_
 have Tz:(((s.heap.update a (Obj.mapSeq λ _=>(#[]:Array Value))).push (seqObj "tuple" vs.toArray 0)).push (seqObj "list" #[] 0)).get? a=some (seqObj "list" #[] e1):=Q4 _ (Q4 _ b5)
 have kp:∀b o,b≠a->s.heap.get? b=some o->(((s.heap.update a (Obj.mapSeq λ _=>(#[]:Array Value))).push (seqObj "tuple" vs.toArray 0)).push (seqObj "list" #[] 0)).get? b=some o:=λ b o ne e=>
  Q4 _ (Q4 _ ((Heap.get?_update_ne _ _ _ _ ne).trans e))
 show wpAny W.M A _ P _ {s with heap:=((s.heap.update a (Obj.mapSeq λ _=>(#[]:Array Value))).push (seqObj "tuple" vs.toArray 0)).push (seqObj "list" #[] 0)}
 generalize ((s.heap.update a (Obj.mapSeq λ _=>(#[]:Array Value))).push (seqObj "tuple" vs.toArray 0)).push (seqObj "list" #[] 0)=h1 at Tz kp ⊢
 dsimp only
 refine Bs (R:=λ κ s'=>s'={s with heap:=h1}∧(2<=vs.length->∀i j (C:Bool->Shared->Prop),i<vs.length->j<vs.length->C (c i j) {s with heap:=h1}->wpAny W.M A (keyLt' κ (vs.getD i .none) (vs.getD j .none)) C (λ _ _=>False) {s with heap:=h1})) (λ h2=>⟨rfl,λ h=>absurd (hsz▸h2) (jN.mpr h)⟩) (λ h2=>?_) ?_
 ·refine A0 (hk (by rw[hsz]at h2;exact jN.mp h2)) λ κ hk=>?_
  exact(hk h1 kp).1 _ ⟨rfl,λ _=>(hk h1 kp).2⟩
 intro κ _ hQ;obtain rfl:=hQ.1;delta hQ hQ hc
 refine B6 (I7 (Q:=λ r s'=>s'={s with heap:=h1}∧(arrOf r.2).map (·.2)=(sF Value.none c vs).toArray∧failedOf r.2=none∧(sF Value.none c vs).length=vs.length) ?_ ?_ λ _ _ e=>e)
 ·by_cases h2:vs.toArray.size<2
  ·have h3:vs.length<2:=hsz▸h2
   rw[F7 h2,StateT.run_pure]
   have e:sF Value.none c vs=vs:=F7 h3
   refine D4 ⟨rfl,?_,rfl,C7 _ e⟩
   rw[e]
   show(vs.toArray.zip vs.toArray).map (·.2)=_
   rw[List.zip_toArray,List.map_toArray,List.map_snd_zip (D7 _)]
  ·have h3:¬vs.length<2:=hsz▸h2
   rw[G0 h2]
   have B:=HP (n:=vs.length) (by lia)
   refine kat_run (Q:=λ st s'=>s'={s with heap:=h1}∧(arrOf st).map (·.2)=(sF Value.none c vs).toArray∧failedOf st=none∧(sF Value.none c vs).length=vs.length) rfl (jN.mp h3) LH (λ p Zd s' a1 a2 a3 a4=>?_) (B.wp (G:=λ p s'=>p=RH c (kas_sort vs.length)∧s'={s with heap:=h1}) (hc (jN.mp h3)) ⟨rfl,rfl⟩)
   obtain rfl:=a4.1;obtain rfl:=a4.2;try clear a4
   have e:sF Value.none c vs=(RH c (kas_sort vs.length)).toList.map λ i=>vs.getD i .none:=G0 h3
   exact⟨rfl,(kat_snds rfl a2).trans (C7 List.toArray e.symm),a3,by rw[e,A8,bZ,a1]⟩
 intro hQ;obtain⟨⟨⟩,st⟩:=hQ;intro _ TO;obtain rfl:=TO.1;delta TO TO a1 a2 a3
 dsimp only at a1 a2 ⊢
 rw[a1]
 refine B6 (seqEpoch_at Tz rfl ?_)
 obtain⟨e2,Lg⟩:∃e2,(h1.update a (Obj.mapSeq λ _=>(sF Value.none c vs).toArray)).get? a=some (seqObj "list" (sF Value.none c vs).toArray e2):=⟨_,get?_update_seq Tz λ _=>_⟩
 refine B6 (listUpdate_at Tz rfl ?_ (K3 _) (by rw[H1,a3,K0];lia))
 rw[a2]
 simp only[bne_self_eq_false,cT,gZ]
 exact D4 (q _ e2 (λ b o ne e=>(Heap.get?_update_ne _ _ _ _ ne).trans (kp b o ne e)) a3 Lg)
end
theorem WE{h:Heap}{α:Type}{d:α}{f:α->PV}{xs:List α}{vs:List Value}{c:Nat->Nat->Bool}(r:bP h (xs.map f) vs):bP h ((sF d c xs).map f) (sF .none c vs):=by
 have l:=r.length
 rw[A8]at l
 unfold sF
 rw[l]
 split
 ·exact r
 ·rename_i h2
  have B:=(HP (n:=xs.length) (by lia)).ev (c:=c)
  have B:=λ x hx=>B.a x (Array.mem_def.mpr hx)
  generalize (RH c (kas_sort xs.length)).toList=is at B ⊢
  rw[G2]
  induction is with
  |nil=>exact .nil
  |cons i is ih=>
   refine .cons ?_ (ih λ x hx=>B x (.tail _ hx))
   have hi:=B i (.head _)
   have e:(xs.map f)[i]? =some (f (xs.getD i d)):=by rw[H9,C2,C4 hi];rfl
   refine A0 (r.get e) λ v hZ=>?_;delta hZ e2 k
   show VR h (f (xs.getD i d)) (vs.getD i .none)
   rw[C2 (l:=vs),e2];exact k
section
variable{W:Wd}{n:Nat}{σ:PH}{Q:PV->PH->Prop}{α:Type}(d:α)(f:α->PV)
theorem SE{a:Addr}{xs:List α}{c:Nat->Nat->Bool}(e:σ a=some (.list (xs.map f)))(LH:xs.length<64)
  (hk:∀(A:Around) (s:Shared) (vs:List Value),bP s.heap (xs.map f) vs->2<=vs.length->∃κ,∀h',(∀b o,s.heap.get? b=some o->h'.get? b=some o)->(∀R:SortKind->Shared->Prop,R κ {s with heap:=h'}->wpAny W.M A (keyKind' vs.toArray) R (λ _ _=>False) {s with heap:=h'})∧
   ∀i j (C:Bool->Shared->Prop),i<vs.length->j<vs.length->C (c i j) {s with heap:=h'}->wpAny W.M A (keyLt' κ (vs.getD i .none) (vs.getD j .none)) C (λ _ _=>False) {s with heap:=h'})
  (q:∀c',σ c'=none->Q (.ref c') (σ.set c' (.list ((sF d c xs).map f)))):J9 W n (.builtin "sorted") [.ref a] σ Q:=LI λ A s v rm S r=>by
 cases r
 refine ee2.e (S.list e) λ vs k hZ=>?_;delta hZ e1 r1 z
 have l:=r1.length
 rw[A8]at l
 refine Calls.call_function_entry kind_sorted plain_sorted entry_sorted (args_sorted1 _) ?_
 unfold Builtin.«sorted»
 refine B6 (m:=checkCount "sorted" 1 1 _) (D4 ?_)
 refine B6 (wpAny_collect_seq a (.inl rfl) e1 rfl rfl (λ h' kp=>?_) (by rw[H1,K0];lia))
 rw[List.toList_toArray]
 refine B6 (wpAny_newList ?_ (by rw[K0];lia))
 have Lf:(h'.push (seqObj "list" vs.toArray 0)).get? h'.objs.size=some (seqObj "list" vs.toArray 0):=N6 _ rfl
 have Zr:∀b o,s.heap.get? b=some o->(h'.push (seqObj "list" vs.toArray 0)).get? b=some o:=λ b o e=>Q4 _ (kp b o e)
 have lt:∀b o,s.heap.get? b=some o->b≠h'.objs.size:=λ b o e=>U6 (kM (kp b o e))
 have fr:s.heap.get? h'.objs.size=none:=by
  cases e:s.heap.get? h'.objs.size with
  |none=>rfl
  |some o=>exact absurd rfl (lt _ _ e)
 have hk:=hk A.in1.in1 s vs r1
 refine B6 (K2 (cY slot_list_sort ⟨_,Lf,rfl⟩ entry_list_sort (VV (s:={s with heap:=h'.push (seqObj "list" vs.toArray 0)}) Lf (by lia)
  (λ h2=>(hk h2).imp λ κ h h2 g=>h h2 λ b o e=>g b o (lt b o e) (Zr b o e)) λ h2 k2 g z2 e2=>⟨_,rfl,?_⟩) (args_list_sort _)))
 refine D4 ⟨_,rfl,?_⟩
 have QI:∀b o,s.heap.get? b=some o->h2.get? b=some o:=λ b o e=>g b o (lt b o e) (Zr b o e)
 exact K4.made (o:=.list ((sF d c xs).map f)) S QI fr e2 (.list (WE (r1.V7 λ b o e _=>QI b o e)) (by rw[<-(WE (d:=d) (c:=c) r1).length,z2];lia)) q
end
abbrev sD:Str:=Str.ofString ""
abbrev tD:Str×Int:=(sD,0)
abbrev kE(p:Str×Int):PV:=.tup [.str p.1,.int p.2]
def To(a b:Str):Bool:=decide (a.cps.toList<b.cps.toList)
def Ho(a b:Str×Int):Bool:=if a.1=b.1 then decide (a.2<b.2)else To a.1 b.1
abbrev Pj(xs:List Str):List Str:=sF sD (λ i j=>To (xs.getD i sD) (xs.getD j sD)) xs
abbrev oB(xs:List (Str×Int)):List (Str×Int):=sF tD (λ i j=>Ho (xs.getD i tD) (xs.getD j tD)) xs
theorem Qm{h:Heap}:∀{ps:List (Str×Int)} {vs:List Value},bP h (ps.map kE) vs->∃fs,KatTups h vs fs∧fs.length=vs.length∧∀v∈fs,∃x t,v=.str x t
 |[],_,r=>by cases r;exact⟨[],.nil,rfl,λ _ h=>(nomatch h)⟩
 |p::ps,_,r=>by
  cases r with
  |cons r1 r2=>
   refine A0 (Qm r2) λ fs hZ=>?_;delta hZ h1 h2 h3
   cases r1 with
   |tup ht r1 _=>
    intros ht o hZ;generalize hZ.1=ho;generalize hZ.2=P4;generalize P4.1=hc;refine A0 P4.2 λ k hd=>?_;try clear P4;try clear hZ
    cases r1 with
    |cons ra _=>
     cases ra with
     |str x t _=>exact⟨.str p.1 t::fs,.cons ho hc hd rfl h1,C7 Nat.succ h2,λ v hv=>(F8.mp hv).elim (λ e=>⟨_,_,e⟩) (h3 v)⟩
section
variable{W:Wd}{n:Nat}{σ:PH}{Q:PV->PH->Prop}
theorem yN{h:Heap}{α:Type}{d:α}{f:α->PV}{xs:List α}{vs:List Value}(r:bP h (xs.map f) vs){i:Nat}(hi:i<vs.length):VR h (f (xs.getD i d)) (vs.getD i .none):=by
 have l:=r.length
 rw[A8]at l
 rw[l]at hi
 refine A0 (r.get (i:=i) (x:=f (xs.getD i d)) (by rw[H9,C2,C4 hi];rfl)) λ v hZ=>?_;delta hZ e2 k
 rw[C2 (l:=vs),e2];exact k
theorem SD{a:Addr}{xs:List Str}(e:σ a=some (.list (xs.map .str)))(LH:xs.length<64)(q:∀c,σ c=none->Q (.ref c) (σ.set c (.list ((Pj xs).map .str)))):J9 W n (.builtin "sorted") [.ref a] σ Q:=
 SE sD .str e LH (λ A s vs r h2=>⟨oneType',λ h' kp=>⟨λ R hR=>kas_kind h2 (T:=.type "str") (λ v hv=>by
  refine A0 (r.mem hv) λ x hZ=>?_;delta hZ hx r
  refine A0 (D2.mp hx) λ y hZ=>?_;clear hv hx;obtain rfl:=hZ.2;try clear hZ
  cases r;exact Looks.of_pure rfl) rfl rfl hR,λ i j C hi hj hC=>by
  have ri:=yN (d:=sD) r hi
  have rj:=yN (d:=sD) r hj
  revert hC
  generalize xs.getD i sD=x at ri ⊢
  generalize xs.getD j sD=y at rj ⊢
  intro hC
  refine ri.qD (P:=λ v=>wpAny W.M A (keyLt' oneType' v _) _ _ _) λ t _=>rj.qD (P:=λ v=>wpAny W.M A (keyLt' oneType' _ v) _ _ _) λ u _=>kas_lt_str hC⟩⟩) q
theorem pY{a:Addr}{xs:List (Str×Int)}(e:σ a=some (.list (xs.map kE)))(LH:xs.length<64)(q:∀c,σ c=none->Q (.ref c) (σ.set c (.list ((oB xs).map kE)))):J9 W n (.builtin "sorted") [.ref a] σ Q:=
 SE tD kE e LH (λ A s vs r h2=>⟨tuples' true,λ h' kp=>⟨λ R hR=>by
  refine A0 (Qm (r.V7 λ b o e _=>kp b o e)) λ fs hZ=>?_;delta hZ k1 k2 k3
  exact kat_kind (T:=.type "str") k1 (by lia) (λ v hv=>by refine ee2.e (k3 v hv) λ x t hZ=>?_;clear h2 LH hv k1 k2 k3;obtain rfl:=hZ;exact Looks.of_pure rfl) rfl hR,λ i j C hi hj hC=>by
  have r:=r.V7 (h':=h') λ b o e _=>kp b o e
  have ri:=yN (d:=tD) r hi
  have rj:=yN (d:=tD) r hj
  revert hC
  generalize xs.getD i tD=x at ri ⊢
  generalize xs.getD j tD=y at rj ⊢
  intro hC
  refine ri.xN (P:=λ v=>wpAny W.M A (keyLt' (tuples' true) v _) _ _ _) λ b us hu ru _=>rj.xN (P:=λ v=>wpAny W.M A (keyLt' (tuples' true) _ v) _ _ _) λ b' ec x6 s7 _=>?_
  clear e h2 LH hi hj kp r ri rj;cases ru with|cons r1 r2=>cases r2 with|cons r2 r3=>cases r3;cases r1;cases r2;cases s7 with|cons r1 r2=>cases r2 with|cons r2 r3=>
   cases r3;cases r1;cases r2
   intros hu o hZ;generalize hZ.1=ho;generalize hZ.2=P4;generalize P4.1=hc;refine A0 P4.2 λ k hd=>?_;try clear P4;try clear hZ
   intros x6 o' hZ;generalize hZ.1=LE;generalize hZ.2=P4;generalize P4.1=VD;refine A0 P4.2 λ k' VC=>?_;try clear P4;try clear hZ
   refine kat_lt ho hd LE VC (kat_cons (wpAny_eqBool_str (kat_go (λ he=>kat_yes (kat_cons (wpAny_eqBool_int (kat_go (λ d8=>kat_yes (kat_nil ?_)) λ d8=>kat_no (kat_one _ _ (lt_int ?_)))))) λ he=>kat_no (oneLt_str ?_))))
   ·unfold Ho at hC;rw[F7 (D0 he),eq_of_beq d8]at hC
    rw[J8 (Int.lt_irrefl _)]at hC
    exact hC
   ·unfold Ho at hC;rw[F7 (D0 he)]at hC
    exact hC
   ·unfold Ho at hC;rw[G0 (K6 he)]at hC
    exact hC⟩⟩) q
end
def perms(n:Nat):Nat->List (List Nat)
 |0=>[[]]
 |k+1=>(perms n k).flatMap λ l=>((List.range n).filter λ x=>!l.contains x).map (·::l)
theorem EJ{n:Nat}:∀{l:List Nat},l.Nodup->(∀x∈l,x<n)->l∈perms n l.length
 |[],_,_=>.head _
 |x::l,nd,h=>P6.mpr ⟨l,EJ (N7.mp nd).2 λ y hy=>h y (.tail _ hy),D2.mpr ⟨x,J5.mpr ⟨N1.mpr (h x (.head _)),by
  rw[dK,<-Bool.not_eq_true,jF];exact(N7.mp nd).1⟩,rfl⟩⟩
theorem WN:∀n<6,∀r∈perms n n,(RH (λ i j=>decide (r.getD i 0<r.getD j 0)) (kas_sort n)).toList.map (r.getD · 0)=List.range n:=by decide+kernel
theorem NT{α:Type}{p q:α->Bool}(h:∀x,p x=true->q x=true){a:α}(hq:q a=true)(hp:p a=false):∀{xs:List α},a∈xs->xs.countP p<xs.countP q
 |x::l,m=>by
  rw[List.countP_cons,List.countP_cons]
  have m1:=List.countP_mono_left (l:=l) λ x _=>h x
  rcases F8.mp m with rfl|m
  ·rw[hq,hp];exact hX m1
  ·have:=NT h hq hp m
   cases e:p x with
   |true=>rw[h x e];exact Nat.succ_lt_succ this
   |false=>exact D1 this (J6 _ _)
structure Od{α:Type}(lt:α->α->Bool):Prop where
 ir:∀a,lt a a=false
 tr:∀a b c,lt a b=true->lt b c=true->lt a c=true
 Vj:∀a b,a≠b->lt a b=true∨lt b a=true
section
variable{α:Type}{lt:α->α->Bool}(T:Od lt){d:α}
include T
theorem Od.PU{xs:List α}{a b:α}(ha:a∈xs)(h:lt a b=true):xs.countP (lt · a)<xs.countP (lt · b):=NT (p:=(lt · a)) (q:=(lt · b)) (λ x hx=>T.tr _ _ _ hx h) h (T.ir a) ha
theorem Od.Hb{xs:List α}{a b:α}(ha:a∈xs)(hb:b∈xs)(h:xs.countP (lt · a)=xs.countP (lt · b)):a=b:=Classical.byContradiction λ ne=>by
 rcases T.Vj a b ne with e|e
 ·exact absurd h (U6 (T.PU ha e))
 ·exact absurd h.symm (U6 (T.PU hb e))
theorem Od.dU{xs:List α}(nd:xs.Nodup)(h2:2<=xs.length)(h5:xs.length<=5):(sF d (λ i j=>lt (xs.getD i d) (xs.getD j d)) xs).map (λ e=>xs.countP (lt · e))=List.range xs.length∧∀e∈sF d (λ i j=>lt (xs.getD i d) (xs.getD j d)) xs,e∈xs:=by
 have m:=EJ (n:=xs.length) (l:=xs.map λ e=>xs.countP (lt · e)) (X4.mpr (bK (λ ha hb ne e=>ne (T.Hb ha hb e)) nd)) λ x hx=>by
  refine A0 (D2.mp hx) λ e hZ=>?_;generalize hZ.1=he;clear hx;obtain rfl:=hZ.2;try clear hZ
  have:=NT (p:=(lt · e)) (q:=λ _=>true) (λ _ _=>rfl) rfl (T.ir e) he
  rwa [List.countP_true]at this
 rw[A8]at m
 have ok:=WN xs.length (hX h5) _ m
 have B:=HP (n:=xs.length) (D1 (by decide) h2)
 have at_:∀i,i<xs.length->xs.getD i d∈xs∧(xs.map λ e=>xs.countP (lt · e)).getD i 0=xs.countP (lt · (xs.getD i d)):=λ i hi=>by
  rw[C2,C2,H9,C4 hi]
  exact⟨sK hi,rfl⟩
 have e:RH (λ i j=>lt (xs.getD i d) (xs.getD j d)) (kas_sort xs.length)=RH (λ i j=>decide ((xs.map λ e=>xs.countP (lt · e)).getD i 0<(xs.map λ e=>xs.countP (lt · e)).getD j 0)) (kas_sort xs.length):=B.cg λ i j hi hj=>by
  have hZ:=at_ i hi;delta hZ mi ei
  have hZ:=at_ j hj;delta hZ mj ej
  rw[ei,ej]
  cases h:lt (xs.getD i d) (xs.getD j d)with
  |true=>exact(H3 (T.PU mi h)).symm
  |false=>
   refine(J8 λ c=>?_).symm
   rcases T.Vj _ _ (λ e=>Nat.lt_irrefl _ (by rw[e]at c;exact c):xs.getD i d≠xs.getD j d)with e|e
   ·rw[h]at e;cases e
   ·exact Nat.lt_asymm c (T.PU mj e)
 have al:=(B.ev (c:=λ i j=>lt (xs.getD i d) (xs.getD j d))).a
 rw[<-e]at ok
 unfold sF
 rw[G0 (by lia),G2]
 generalize RH (λ i j=>lt (xs.getD i d) (xs.getD j d)) (kas_sort xs.length)=p at ok al
 refine⟨(P1 λ i hi=>?_).trans ok,λ x hx=>?_⟩
 ·exact(at_ i (al i (Array.mem_def.mpr hi))).2.symm
 ·refine A0 (D2.mp hx) λ i hZ=>?_;generalize hZ.1=hi;clear hx;obtain rfl:=hZ.2;try clear hZ
  exact(at_ i (al i (Array.mem_def.mpr hi))).1
theorem Od.perm{xs ys:List α}(p:xs.Perm ys)(nd:xs.Nodup)(h5:xs.length<=5):sF d (λ i j=>lt (xs.getD i d) (xs.getD j d)) xs=sF d (λ i j=>lt (ys.getD i d) (ys.getD j d)) ys:=by
 have l:=p.length_eq
 by_cases h2:2<=xs.length
 ·have hZ:=T.dU (d:=d) nd h2 h5;delta hZ a1 a2
  have hZ:=T.dU (d:=d) (p.nodup_iff.mp nd) (l▸h2) (l▸h5);delta hZ b1 b2
  rw[show(λ e=>ys.countP (lt · e))=λ e=>xs.countP (lt · e)from funext λ e=>(p.countP_eq _).symm,<-l,<-a1]at b1
  have inj:∀{us vs:List α},(∀e∈us,e∈xs)->(∀e∈vs,e∈xs)->vs.map (λ e=>xs.countP (lt · e))=us.map (λ e=>xs.countP (lt · e))->us=vs:=λ{us}=>by
   induction us with
   |nil=>intro vs _ _ h;exact(mV.mp h).symm
   |cons u us ih=>
    intro vs hu hv h
    cases vs with
    |nil=>cases h
    |cons v vs=>
     injection h with h1 h2
     rw[T.Hb (hv v (.head _)) (hu u (.head _)) h1,ih (λ e he=>hu e (.tail _ he)) (λ e he=>hv e (.tail _ he)) h2]
  exact inj a2 (λ e he=>p.mem_iff.mpr (b2 e he)) b1
 ·have e:xs=ys:=by
   clear nd h5
   cases xs with
   |nil=>exact(kL l.symm).symm
   |cons x r=>cases r with
    |nil=>exact(List.perm_singleton.mp p.symm).symm
    |cons y r=>exact absurd (aA 2 _) h2
  rw[e]
end
theorem Pc:Od Ho where
 ir a:=by unfold Ho;rw[F7 rfl];exact J8 (Int.lt_irrefl _)
 tr a b c h1 h2:=by
  unfold Ho To at*
  by_cases e1:a.1=b.1
  ·rw[F7 e1]at h1
   by_cases e2:b.1=c.1
   ·rw[F7 e2]at h2;rw[F7 (e1.trans e2)]
    exact H3 (Int.lt_trans (D0 h1) (D0 h2))
   ·rw[G0 e2]at h2;rw[G0 (e1▸e2),e1];exact h2
  ·rw[G0 e1]at h1
   by_cases e2:b.1=c.1
   ·rw[G0 (e2▸e1),<-e2];exact h1
   ·rw[G0 e2]at h2
    have h:=List.lt_trans (D0 h1) (D0 h2)
    rw[G0 λ e=>List.lt_irrefl _ (by rw[e]at h;exact h)]
    exact H3 h
 Vj a b ne:=by
  unfold Ho To
  by_cases e:a.1=b.1
  ·rw[F7 e,F7 e.symm]
   rcases Int.lt_or_gt_of_ne (λ h=>ne (kH e h))with h|h
   ·exact .inl (H3 h)
   ·exact .inr (H3 h)
  ·rw[G0 e,G0 (hM e)]
   by_cases h:a.1.cps.toList<b.1.cps.toList
   ·exact .inl (H3 h)
   ·refine .inr (H3 (Classical.byContradiction λ h'=>e ?_))
    have:=Array.toList_inj.mp (List.le_antisymm (List.not_lt.mp h') (List.not_lt.mp h))
    cases h1:a.1;cases h2:b.1
    rw[h1,h2]at this;exact C7 _ this
theorem LY{xs ys:List (Str×Int)}(p:xs.Perm ys)(nd:xs.Nodup)(h5:xs.length<=5):oB xs=oB ys:=Pc.perm p nd h5
section
variable{W:Wd}(hW:W.Ok){n:Nat}{σ:PH}{Q:PV->PH->Prop}
include hW
theorem RO{a:Addr}{es:List (PK×PV)}{m:Nat}{i:Int}{y:PV}(e:σ a=some (.dict es m))(hs:U3 (.int i) es=true)(q:Q ((es.lookup (.int i)).getD y) σ):J9 W n (.builtin "dict.get") [.ref a,.int i,y] σ Q:=Xw λ A s v u t rm S r r2 r3=>by
 cases r
 cases r2 with
 |int _ ti=>
  refine A0 (S.dict e) λ ob hZ=>?_;delta hZ e1 r1
  refine ee2.e (r1.Pd hs) λ ds kvs hZ=>?_;clear hs r1;obtain rfl:=hZ.1;delta hZ hZ kv b c d
  have hd:=hW.vQ S e
  have hm:=(lK (W:=W) e1 b c d).mapOf
  refine call_meetsIn jC ⟨_,e1,rfl⟩ PySem.F.entry_dict_get (PySem.F.args_dict_get_3 _ _ _) (meets_dict_get_default W.ik a (EW i ti) hd t) ⟨_,hm,?_⟩
  clear b c d e e1 hW hd hm m ti;rcases fV (λ _ _ z=>by injection z) kv i with⟨z,z'⟩|⟨y',u,z,z2,r⟩
  ·rw[z]at q;rw[z'];exact K4.val (A:=A) S r3 q
  ·rw[z]at q;rw[z2];exact K4.val (A:=A) S r q
theorem KE{a:Addr}{m:Nat}{i:Int}(e:σ a=some (.dict [] m))(q:Q .none σ):J9 W n (.builtin "dict.get") [.ref a,.int i] σ Q:=YF λ A s v u rm S r r2=>by
 cases r
 cases r2 with
 |int _ ti=>
  refine A0 (S.dict e) λ ob hZ=>?_;delta hZ e1 r1
  refine ee2.e (r1.Pd (i:=i) rfl) λ ds kvs hZ=>?_;clear r1;obtain rfl:=hZ.1;delta hZ hZ kv b c d
  have hd:=hW.vQ S e
  have hm:=(lK (W:=W) e1 b c d).mapOf
  clear b c d e hW;cases kv
  exact call_meetsIn jC ⟨_,e1,rfl⟩ PySem.F.entry_dict_get (PySem.F.args_dict_get_2 _ _) (meets_dict_get W.ik a (EW i ti) hd) ⟨_,hm,K4.val (A:=A) S .none q⟩
theorem Ez{a:Addr}{es:List (PK×PV)}{m:Nat}{l:List Int}{y:PV}(e:σ a=some (.dict es m))(hs:U3 (.bN l) es=true)(q:Q ((es.lookup (.bN l)).getD y) σ):J9 W n (.builtin "dict.get") [.ref a,.tup (l.map .int),y] σ Q:=Xw λ A s v u t rm S r r2 r3=>by
 cases r
 have kr:=yV (W:=W) r2 (k:=.bN l) (by show(intsOf _).map PK.bN=_;rw[rQ];rfl)
 clear r2;cases kr with
 |bN tk tz=>
  refine A0 (S.dict e) λ ob hZ=>?_;delta hZ e1 r1
  refine ee2.e (r1.toT hs) λ ds xs hZ=>?_;clear r1;obtain rfl:=hZ.1;delta hZ hZ kt c d
  have hd:=hW.vQ S e
  have hu:=rm.cLine
  refine call_meetsIn jC ⟨_,e1,rfl⟩ PySem.F.entry_dict_get (PySem.F.args_dict_get_3 _ _ _) (meetsH_dict_get_default W.tk a _ hd t) ⟨iU (by lia),l,xs,tk,pD e1 kt c d,?_⟩
  rcases mI kt l with⟨z,z'⟩|⟨y',a2,u,z,z2,r⟩
  ·rw[z]at q;rw[z'];exact K4.val (A:=A) S r3 q
  ·rw[z]at q;rw[z2];exact K4.val (A:=A) S r q
omit hW
theorem qU(xs:List Str):(xs.map PV.str).all fA=true:=by rw[cS];exact G3.mpr λ _ _=>rfl
theorem Cq{a:Addr}{xs:List Str}{x:Str}{j:Nat}(e:σ a=some (.list (xs.map .str)))(hj:xs[j]? =some x)(y9:∀m:Nat,m<j->xs[m]? ≠some x)(hz:xs.length<=2^20)(q:Q (C0 j) σ):J9 W n (.builtin "list.index") [.ref a,.str x] σ Q:=YF λ A s v u rm S r r2=>by
 cases r
 refine ee2.e (S.list e) λ vs k hZ=>?_;delta hZ e1 r1
 have l:=r1.length
 rw[A8]at l
 have lt:=(D3.mp hj).1
 have af:=qU xs
 have Tv:A.in1.units<cLine:=by have:=rm.in1;lia
 have he:∀y,y∈vs.toArray->SeqAt.EqAt A.in1 s y u (vX s.heap (.str x) (xs.map .str) y):=λ y hy=>by
  refine A0 (r1.mem (by simpa using hy)) λ w hZ=>?_;delta hZ hw Jv
  rw[zA af hw Jv]
  exact vY Tv (G3.mp af _ hw) rfl Jv r2
 have at_:∀m (hm:m<vs.toArray.size),∃y,xs[m]? =some y∧vX s.heap (.str x) (xs.map .str) vs.toArray[m]=decide (y=x):=λ m hm=>by
  have LF:m<xs.length:=by rw[H1]at hm;lia
  have e3:(xs.map PV.str)[m]? =some (.str xs[m]):=by rw[H9,C4 LF];rfl
  refine A0 (r1.get e3) λ w hZ=>?_;delta hZ e2 Jv
  have e4:vs.toArray[m]=w:=by
   have:vs.toArray[m]? =some w:=by rw[dG];exact e2
   rw[qB hm]at this;exact G8 this
  exact⟨xs[m],C4 LF,by rw[e4,zA af (B5 e3) Jv];rfl⟩
 have hsz:vs.toArray.size=xs.length:=by rw[H1,l]
 refine A0 (at_ j (by lia)) λ y hZ=>?_;delta hZ y1 y2
 rw[hj]at y1;clear af e hj Tv l r1 r2 rm;cases y1
 refine iV PySem.F.slot_list_index ⟨_,e1,rfl⟩ PySem.F.entry_list_index (PySem.F.args_list_index_2 _ _) (SeqAt.list_indexAt a vs.toArray k none #[] u (vX s.heap (.str x) (xs.map .str)) j (by lia) (by lia) (by rw[y2];simp) λ m hm h=>?_) ⟨e1,he,K4.val (A:=A) S (.int _ _) q⟩
 refine A0 (at_ m hm) λ z hZ=>?_;delta hZ z1 z2
 rw[z2,J8]
 clear S at_ e1 he k q u y2 z2;rintro rfl
 exact y9 m h z1
end
structure Led(C8 σ:PH)(L R:List (Addr×PO)):Prop where
 nd:((L++R).map (·.1)).Nodup
 new:∀p∈L++R,C8 p.1=none
 at_:∀p∈L++R,σ p.1=some p.2
 ext:Ext C8 σ
section
variable{C8 σ:PH}{L R:List (Addr×PO)}
theorem Led.nil(E:Ext C8 σ):Led C8 σ [] []:=⟨.nil,λ _ h=>(nomatch h),λ _ h=>(nomatch h),E⟩
theorem Led.start(σ:PH):Led σ σ [] []:=.nil (.refl σ)
theorem Led.grow{B9:PH}(h:Led C8 σ L R)(E:Ext σ B9):Led C8 B9 L R:=⟨h.nd,h.new,λ p hp=>E _ _ (h.at_ p hp),h.ext.trans E⟩
theorem Led.get(h:Led C8 σ L R)(k:Nat){a:Addr}{o:PO}(e:L[k]? =some (a,o)):σ a=some o:=h.at_ _ (H0 _ (B5 e))
theorem Led.HF(h:Led C8 σ L R){k:Nat}{a:Addr}{o:PO}(e:R[k]? =some (a,o)):σ a=some o:=h.at_ _ (G4 _ (B5 e))
theorem Led.obj(h:Led C8 σ L R)(k j:Nat){a C dx:Addr}{fs:List (String×PV)}(e:L[k]? =some (a,.inst C dx))(e2:L[j]? =some (dx,.attrs C fs)):aT σ a C fs:=⟨dx,h.get k e,h.get j e2⟩
theorem Led.put(h:Led C8 σ L R){X Y:List (Addr×PO)}{a:Addr}{o o':PO}(e:L++R=X++(a,o)::Y){L' R':List (Addr×PO)}(e':L'++R'=X++(a,o')::Y):Led C8 (σ.set a o') L' R':=by
 obtain⟨nd,new,at_,ext⟩:=h
 rw[e]at nd new at_
 have Vz:=nd
 rw[C1,I6,O8,N7]at Vz
 have na:C8 a=none:=new (a,o) (by simp)
 refine⟨by rw[e'];rw[C1,I6]at nd ⊢;exact nd,λ p hp=>?_,λ p hp=>?_,ext.upd na _⟩
 ·rw[e']at hp
  rcases G9.mp hp with hp|hp
  ·exact new p (by simp[hp])
  ·rcases F8.mp hp with rfl|hp
   ·exact na
   ·exact new p (by simp[hp])
 ·rw[e']at hp
  rcases G9.mp hp with hp|hp
  ·rw[PH.U0]
   ·exact at_ p (by simp[hp])
   ·exact Vz.2.2 _ (J2 hp) _ (.head _)
  ·rcases F8.mp hp with rfl|hp
   ·exact PH.J7 ..
   ·rw[PH.U0]
    ·exact at_ p (by simp[hp])
    ·exact λ q=>Vz.2.1.1 (by have:=J2 (f:=Prod.fst) hp;rw[q]at this;exact this)
theorem Led.sub(h:Led C8 σ L R){L' R':List (Addr×PO)}(s:(L'++R').Sublist (L++R)):Led C8 σ L' R':=⟨h.nd.sublist (s.map _),λ p hp=>h.new p (s.subset hp),λ p hp=>h.at_ p (s.subset hp),h.ext⟩
theorem Led.drop{X:List (Addr×PO)}(h:Led C8 σ (L++X) R):Led C8 σ L R:=h.sub (by rw[C6];exact(List.sublist_append_right X R).append_left L)
theorem fG{α:Type}{l:List α}{k:Nat}{x:α}(e:l[k]? =some x)(y:α):l=l.take k++x::l.drop (k+1)∧l.set k y=l.take k++y::l.drop (k+1):=by
 refine A0 (D3.mp e) λ h e=>?_
 refine⟨?_,List.set_eq_take_append_cons_drop .. |>.trans (F7 h)⟩
 rw[<-e,List.getElem_cons_drop,List.take_append_drop]
theorem Led.set(h:Led C8 σ L R)(k:Nat){a:Addr}{o:PO}(e:L[k]? =some (a,o))(o':PO):Led C8 (σ.set a o') (L.set k (a,o')) R:=by
 have hZ:=fG e (a,o');delta hZ e1 e2
 exact h.put (X:=L.take k) (Y:=L.drop (k+1)++R) (o:=o) (by conv=>lhs;rw[e1,C6,P7]) (by conv=>lhs;rw[e2,C6,P7])
theorem Led.Pl(h:Led C8 σ L R){k:Nat}{a:Addr}{o:PO}(e:R[k]? =some (a,o))(o':PO):Led C8 (σ.set a o') L (R.set k (a,o')):=by
 have hZ:=fG e (a,o');delta hZ e1 e2
 exact h.put (X:=L++R.take k) (Y:=R.drop (k+1)) (o:=o) (by conv=>lhs;rw[e1,<-C6]) (by conv=>lhs;rw[e2,<-C6])
theorem Led.add(h:Led C8 σ L R){c:Addr}(hc:σ c=none)(o:PO){L' R':List (Addr×PO)}{X Y:List (Addr×PO)}(e:L++R=X++Y)(e':L'++R'=X++(c,o)::Y):Led C8 (σ.set c o) L' R':=by
 obtain⟨nd,new,at_,ext⟩:=h
 have nc:C8 c=none:=ext.none hc
 have fr:c∉(X++Y).map (·.1):=λ m=>by
  refine A0 (D2.mp m) λ p hZ=>?_;generalize hZ.1=hp;clear m;clear e' nc;obtain rfl:=hZ.2;try clear hZ
  rw[<-e]at hp
  rw[at_ p hp]at hc;cases hc
 rw[e]at nd new at_
 rw[C1,G9,not_or]at fr
 refine⟨?_,λ p hp=>?_,λ p hp=>?_,ext.upd nc _⟩
 ·rw[e']
  rw[C1,O8]at nd
  rw[C1,I6,O8,N7]
  refine⟨nd.1,⟨fr.2,nd.2.1⟩,λ a ha b hb=>?_⟩
  clear e' nc hc;rcases F8.mp hb with rfl|hb
  ·exact λ q=>fr.1 (q▸ha)
  ·exact nd.2.2 a ha b hb
 ·rw[e']at hp
  rcases G9.mp hp with hp|hp
  ·exact new p (by simp[hp])
  ·rcases F8.mp hp with rfl|hp
   ·exact nc
   ·exact new p (by simp[hp])
 ·rw[e']at hp
  have go:p∈X++Y->(σ.set c o) p.1=some p.2:=λ hp=>PH.VX (at_ p hp) hc
  clear at_ e e' ext fr hc nc nd new;rcases G9.mp hp with hp|hp
  ·exact go (by simp[hp])
  ·rcases F8.mp hp with rfl|hp
   ·exact PH.J7 ..
   ·exact go (by simp[hp])
theorem Led.alloc(h:Led C8 σ L R){c:Addr}(hc:σ c=none)(o:PO):Led C8 (σ.set c o) (L++[(c,o)]) R:=h.add hc o (X:=L) (Y:=R) rfl (by simp)
theorem Led.wH(h:Led C8 σ L R){c:Addr}(hc:σ c=none)(o:PO):Led C8 (σ.set c o) L (R++[(c,o)]):=h.add hc o (X:=L++R) (Y:=[]) (by simp) (by simp)
theorem Ql{o:PO}{Q:PV->PH->Prop}(h:Led C8 σ L R)(k:∀c B9,Led C8 B9 (L++[(c,o)]) R->Q (.ref c) B9):∀c,σ c=none->Q (.ref c) (σ.set c o):=λ c hc=>k c _ (h.alloc hc o)
end
def mB(l:List Addr)(f:Nat->List PV):List (Addr×PO):=l.zipIdx.map λ p=>(p.1,.list (f p.2))
theorem aD{l:List Addr}{f:Nat->List PV}{i:Nat}{a:Addr}(h:l[i]? =some a):(mB l f)[i]? =some (a,.list (f i)):=by
 unfold mB;rw[H9,kK,h];simp
theorem gW{l:List Addr}{f g:Nat->List PV}(h:∀i,i<l.length->f i=g i):mB l f=mB l g:=by
 refine iC λ i=>?_
 cases e:l[i]? with
 |none=>unfold mB;simp[kK,e]
 |some a=>rw[aD e,aD e,h i (D3.mp e).1]
theorem yU{l:List Addr}{f:Nat->List PV}{i:Nat}{a:Addr}(h:l[i]? =some a)(xs:List PV):(mB l f).set i (a,.list xs)=mB l λ j=>if j=i then xs else f j:=by
 refine iC λ j=>?_
 rw[aY]
 have len:(mB l f).length=l.length:=by unfold mB;simp
 by_cases c:i=j
 ·subst c
  rw[F7 rfl,F7 (by rw[len];exact(D3.mp h).1),aD h]
  simp
 ·rw[G0 c]
  cases e:l[j]? with
  |none=>unfold mB;simp[kK,e]
  |some b=>rw[aD e,aD e];simp[hM c]
theorem BC(l:List Addr)(f:Nat->List PV)(c:Addr):mB l f++[(c,.list (f l.length))]=mB (l++[c]) f:=by
 unfold mB;rw[List.zipIdx_append,C1];simp
theorem Led.rows{C8 σ:PH}{L:List (Addr×PO)}{l:List Addr}{f:Nat->List PV}(h:Led C8 σ L (mB l f)):Rows σ l l.length f:=⟨rfl,λ i a e=>h.HF (aD e)⟩
section
variable{W:Wd}{n:Nat}
variable{σ:PH}{ρ:List PV}{r:V0}{K:Fl->List PV->PH->Prop}{e:PE}
theorem Q9{f:String}{a:Addr}(h0:ρ[0]? =some (.ref a))(he:(wp W tb n e).v ρ σ λ x B4=>∃C dx fs,B4 a=some (.inst C dx)∧B4 dx=some (.attrs C fs)∧tb.fld C f=true∧fs.length<=100∧S8 W tb n r ρ (B4.set dx (.attrs C (lU f x fs))) K):
  S8 W tb n (.cons (.Q1 (.loc 0) f e) r) ρ σ K:=by
 show(wp W tb n e).v ρ σ λ x B4=>(wp W tb n (.loc 0)).v ρ B4 λ ov H6=>kP tb H6 f x (λ R9=>S8 W tb n r ρ R9 K) ov
 refine Eq.mp (C7 _ ?_) he
 funext x B4
 show _=match ρ[0]? with|some .M7=>False|some v=>kP tb B4 f x (λ R9=>S8 W tb n r ρ R9 K) v|none=>False
 rw[h0]
 rfl
theorem aE{C8:PH}{f:String}{C a dx:Addr}{fs:List (String×PV)}{L R:List (Addr×PO)}{x:PV}(h:Led C8 σ ((a,.inst C dx)::(dx,.attrs C fs)::L) R)(hf:tb.fld C f=true)(hz:fs.length<=100)
  (k:∀B9,Led C8 B9 ((a,.inst C dx)::(dx,.attrs C (lU f x fs))::L) R->S8 W tb n r ρ B9 K):∃C dx fs,σ a=some (.inst C dx)∧σ dx=some (.attrs C fs)∧tb.fld C f=true∧fs.length<=100∧S8 W tb n r ρ (σ.set dx (.attrs C (lU f x fs))) K:=
 ⟨C,dx,fs,h.get 0 rfl,h.get 1 rfl,hf,hz,k _ (h.set 1 rfl _)⟩
theorem vR(P:dR W)(j i k:Nat){C:Addr}{r:O9}(hj:EV[j]? =some (C,r.a))(hi:rows[i]? =some r){σ:PH}{args O5:List PV}{fs:List (String×PV)}{b':V0}{Q:PV->PH->Prop}(hf:∀x,r.frame (.ref x::args)=some (.ref x::O5))
  (hr:∀x,WG C (.ref x::O5) k r.b []=some (fs,b'))(q:∀x dx B9,Led σ B9 [(x,.inst C dx),(dx,.attrs C fs)] []->S8 W tb n b' (.ref x::O5) B9 (Pr λ v B9=>v=.none∧Q (.ref x) B9)):J9 W (n+2) (.ref C) args σ Q:=
 P.cls j hj λ x dx ne hx Nv=>P.Uk r i hi (hf x) (tC (C:=C) (dx:=dx) (x:=x) rfl ne k _ (hr x) (PH.J7 ..) (by rw[PH.U0 _ _ (hM ne)];exact PH.J7 ..) (q x dx _ (by
  have h1:Led σ _ [(dx,.attrs C [])] []:=(Led.start σ).alloc Nv (.attrs C [])
  have h2:=h1.add (c:=x) (by rw[PH.U0 _ _ ne];exact hx) (.inst C dx) (X:=[]) (Y:=[(dx,.attrs C [])]) (L':=[(x,.inst C dx),(dx,.attrs C [])]) (R':=[]) rfl rfl
  exact h2.set 1 rfl _)))
end
theorem P9{n x:Nat}{pre post:List Nat}(h:List.range n=pre++x::post):pre=List.range x∧x<n:=by
 have hl:pre.length<n:=by have:=C7 List.length h;simp at this;lia
 have e:(List.range n)[pre.length]? =some x:=by rw[h,N2 (D7 _)];simp
 rw[bX hl]at e
 cases e
 refine⟨?_,hl⟩
 have:(List.range n).take pre.length=pre:=by rw[h];simp
 rw[List.take_range,fY (M8 hl)]at this
 exact this.symm
theorem zX{α:Type}(d:α)(l:List α):l=(List.range l.length).map λ i=>l.getD i d:=by
 refine List.ext_getElem (by simp) λ i h1 h2=>?_
 simp[h1]
theorem fH(l:List Addr):refs l=(List.range l.length).map λ i=>.ref (l.getD i 0):=by
 conv=>lhs;rw[zX 0 l]
 rw[refs,G2];rfl
section
variable{W:Wd}{n:Nat}{σ C8:PH}{L:List (Addr×PO)}
set_option tactic.hygienic true in
theorem FT{e:PE}{tg:Nat}{v:PV}{xs:List PV}{ρ:List PV}{Q:PV->PH->Prop}(hL:Led C8 σ L [])(h:pv σ ρ e=some v)(hv:mF σ v xs)(hb:∀x∈xs,∃ys,eI tg x=some ys)
  (k:∀c B9 l,l.length=xs.length->Led C8 B9 (L++[(c,.list (refs l))]) (mB l λ _=>[])->Q (.ref c) B9):(wp W tb n (.comp (.list .nil) tg e (.bool true))).v ρ σ Q:=by
 refine X5 e h ⟨xs,hv,?_⟩
 have:=comp_map (l:=xs) (f:=id) (V4:=M9 σ v) (turn:=λ x σ R=>∃ys,eI tg x=some ys∧(wp W tb n (.bool true)).t (ρ++ys) σ λ b B9=>match b with
    |true=>(wp W tb n (.list .nil)).v (ρ++ys) B9 λ y S7=>R (some y) S7
    |false=>R none B9) (K:=λ ys H6=>∀c,H6 c=none->Q (.ref c) (H6.set c (.list ys))) (σ:=σ)
  (λ pre acc B9=>∃l,acc=refs l∧l.length=pre.length∧Ext σ B9∧Led C8 B9 L (mB l λ _=>[])) ⟨[],rfl,rfl,.refl _,hL⟩
  (λ pre x post acc B9 R hl Vf hR=>by
   intros Vf l hZ;delta hZ ha hz E Xk
   refine A0 (hb x (by rw[hl];simp)) λ ys hy=>?_
   refine⟨ys,hy,true,rfl,λ c hc=>hR (some (.ref c)) _ ?_ ⟨l++[c],by rw[ha];simp,by simp[hz],E.trans (Ext.new hc _),by rw[<-BC];exact Xk.wH hc _⟩⟩
   clear h hL hR hb hl hy post tg x ys ρ;cases v<;>first|trivial|skip
   rename_i a
   show(B9.set c _) a=σ a
   have hd:∃o,σ a=some o:=by
    have h1:itemsOf σ (.ref a)=some xs:=hv.1
    cases ho:σ a with
    |none=>rw[show itemsOf σ (.ref a)=cG _ _ (σ a)from rfl,ho]at h1;cases h1
    |some o=>exact⟨o,rfl⟩
   intros hd o ho
   rw[PH.VX (E _ _ ho) hc,ho])
  (λ acc B9 ⟨l,ha,hz,E,Xk⟩ c hc=>by subst ha;exact k c _ l hz (Xk.alloc hc _))
 rw[gL]at this
 exact this
end
def SH(σ B9:PH):Prop:=∀a o,σ a=some o->(∀xs,o≠.list xs)->(∀es m,o≠.dict es m)->B9 a=some o
theorem SH.list{σ:PH}{a:Addr}{xs:List PV}(h:σ a=some (.list xs))(o':PO):SH σ (σ.set a o'):=λ b o e h1 _=>by
 rw[PH.U0];exact e
 rintro rfl;rw[h]at e;cases e;exact h1 _ rfl
theorem SH.dict{σ:PH}{a:Addr}{es:List (PK×PV)}{m:Nat}(h:σ a=some (.dict es m))(o':PO):SH σ (σ.set a o'):=λ b o e _ h2=>by
 rw[PH.U0];exact e
 rintro rfl;rw[h]at e;cases e;exact h2 _ _ rfl
theorem aT.obs{σ B9:PH}(O:SH σ B9){a C:Addr}{fs:List (String×PV)}(h:aT σ a C fs):aT B9 a C fs:=let⟨dx,h1,h2⟩:=h
 ⟨dx,O _ _ h1 (λ _ e=>by cases e) (λ _ _ e=>by cases e),O _ _ h2 (λ _ e=>by cases e) (λ _ _ e=>by cases e)⟩
theorem aC.obs{σ B9:PH}(O:SH σ B9){a i:Nat}{r:Rl}(h:aC σ a i r):aC B9 a i r:=let⟨l,o⟩:=h;⟨l,o.obs O⟩
section
variable{W:Wd}{n:Nat}{σ C8:PH}{L R:List (Addr×PO)}{ρ:List PV}{Q:PV->PH->Prop}{K:Fl->List PV->PH->Prop}{e e' KD:PE}{x:PV}{r:V0}
theorem K7{as:uM}{xs:List PV}(hL:Led C8 σ L R)(h:Be σ ρ as=some xs)(k:∀c B9,Led C8 B9 (L++[(c,.list xs)]) R->Q (.ref c) B9):(wp W tb n (.list as)).v ρ σ Q:=uQ h λ c hc=>k c _ (hL.alloc hc _)
theorem dS(hL:Led C8 σ L R)(k:∀c B9,Led C8 B9 (L++[(c,.dict [] 0)]) R->Q (.ref c) B9):(wp W tb n .dP).v ρ σ Q:=OX λ c hc=>k c _ (hL.alloc hc _)
theorem aH(i:Nat){as:PE}{a:Addr}{xs:List PV}(hL:Led C8 σ L R)(ha:L[i]? =some (a,.list xs))(ho:pv σ ρ e=some (.ref a))(h:pv σ ρ as=some x)(hz:xs.length<=2^24)(k:∀B9,SH σ B9->Led C8 B9 (L.set i (a,.list (xs++[x]))) R->Q .none B9):
  (wp W tb n (.H2 e "append" (.cons as .nil))).v ρ σ Q:=zH ho (hL.get i ha) h hz (k _ (.list (hL.get i ha) _) (hL.set i ha _))
theorem LP{i:Nat}{as:PE}{a:Addr}{xs:List PV}(hL:Led C8 σ L R)(ha:R[i]? =some (a,.list xs))(ho:pv σ ρ e=some (.ref a))(h:pv σ ρ as=some x)(hz:xs.length<=2^24)(k:∀B9,SH σ B9->Led C8 B9 L (R.set i (a,.list (xs++[x])))->Q .none B9):
  (wp W tb n (.H2 e "append" (.cons as .nil))).v ρ σ Q:=zH ho (hL.HF ha) h hz (k _ (.list (hL.HF ha) _) (hL.Pl ha _))
theorem aX(i:Nat){a:Addr}{xs:List PV}(hL:Led C8 σ L R)(ha:L[i]? =some (a,.list xs))(hz:xs.length<=2^24)(k:∀B9,SH σ B9->Led C8 B9 (L.set i (a,.list (xs++[x]))) R->Q .none B9):J9 W n (.builtin "list.append") [.ref a,x] σ Q:=BE (hL.get i ha) hz (k _ (.list (hL.get i ha) _) (hL.set i ha _))
theorem NA(i:Nat){a b:Addr}{xs ys:List PV}(hL:Led C8 σ L R)(ha:L[i]? =some (a,.list xs))(hb:σ b=some (.list ys))(hz:xs.length+ys.length<=2^24)(k:∀B9,SH σ B9->Led C8 B9 (L.set i (a,.list (xs++ys))) R->Q .none B9):J9 W n (.builtin "list.extend") [.ref a,.ref b] σ Q:=XH (hL.get i ha) hb hz (k _ (.list (hL.get i ha) _) (hL.set i ha _))
theorem gH{a b:Addr}{xs ys:List PV}(hL:Led C8 σ L R)(ha:σ a=some (.list xs))(hb:σ b=some (.list ys))(hz:xs.length+ys.length<=2^24)(k:∀c B9,Led C8 B9 (L++[(c,.list (xs++ys))]) R->Q (.ref c) B9):mO .Add σ Q (.ref a) (.ref b):=⟨rfl,xs,ys,ha,hb,hz,λ c hc=>k c _ (hL.alloc hc _)⟩
theorem CF{a:Addr}{y:PV}{m:Nat}(hL:Led C8 σ L R)(ha:σ a=some (.list [y]))(hz:m<=2^24)(k:∀c B9,Led C8 B9 (L++[(c,.list (List.replicate m y))]) R->Q (.ref c) B9):mO .Mult σ Q (.ref a) (C0 m):=⟨rfl,[y],ha,by lia,by lia,rfl,λ c hc=>by
 rw[show(List.replicate ((m:Int)).toNat [y]).flatten=List.replicate m y from by simp]
 exact k c _ (hL.alloc hc _)⟩
theorem mX(i:Nat){a:Addr}{xs:List PV}{j:Nat}(hL:Led C8 σ L R)(ha:L[i]? =some (a,.list xs))(he:pv σ ρ e=some x)(ho:pv σ ρ e'=some (.ref a))(hi:pv σ ρ KD=some (.int j))(hj:j<xs.length)(k:∀B9,SH σ B9->Led C8 B9 (L.set i (a,.list (xs.set j x))) R->S8 W tb n r ρ B9 K):
  S8 W tb n (.cons (.aN e' KD e) r) ρ σ K:=Jq he ho hi (hL.get i ha) hj (k _ (.list (hL.get i ha) _) (hL.set i ha _))
theorem rG(i:Nat){a:Addr}{es:List (PK×PV)}{m:Nat}{y:PV}{q:PK}(hL:Led C8 σ L R)(ha:L[i]? =some (a,.dict es m))(he:pv σ ρ e=some x)(ho:pv σ ρ e'=some (.ref a))(hi:pv σ ρ KD=some y)(hk:keyOf y=some q)(hs:U3 q es=true)(hz:es.length<2^24)
  (k:∀m' B9,SH σ B9->Led C8 B9 (L.set i (a,.dict (putK q x es) m')) R->S8 W tb n r ρ B9 K):S8 W tb n (.cons (.aN e' KD e) r) ρ σ K:=Pm he ho hi (hL.get i ha) hk hs hz λ m'=>k m' _ (.dict (hL.get i ha) _) (hL.set i ha _)
end
theorem AP:∀(l:List Rl) (k:Nat) (r:Rl),gQ (l++[r]) k=gQ l k++List.replicate (r.right.length+1) (k+l.length)
 |[],k,r=>C9 _
 |x::l,k,r=>by
  rw[P7,pS,pS,AP l (k+1) r,C6]
  rw[show k+1+l.length=k+(x::l).length from by simp;lia]
theorem pR:∀(l:List Rl) (k:Nat),(gQ l k).length=(l.map λ r=>r.right.length+1).sum
 |[],_=>rfl
 |x::l,k=>by rw[pS,B0,K8,pR l (k+1),I6,qY]
structure Gr.Wf(G:Gr):Prop where
 left:∀r∈G.rules,r.left<G.names.length
 sym:∀r∈G.rules,∀x∈r.right,x<G.names.length
 len:∀r∈G.rules,r.right.length<=3
 rules:G.rules.length<=6
 names:G.names.length<=10
 pos:1<=G.rules.length
 own:G.aS.length<=15
 tc:G.tc<=G.names.length
 na:∀r∈G.rules,G.tc∉r.right
 r0:G.rules[0]?.map (·.left)=some G.tc
 t3:3<=G.tc
 t5:G.tc<=5
theorem Ck:∀l:List Rl,(∀r∈l,r.right.length<=3)->(gQ l 0).length<=4*l.length:=by
 intro l h
 rw[pR]
 induction l with
 |nil=>simp
 |cons x q ih=>have:=ih λ r hr=>h r (.tail _ hr);have:=h x (.head _);simp;lia
theorem Cm{G:Gr}{i:Nat}{r:Rl}(h:G.rules[i]? =some r)(s:Nat):(List.range (i+1)).filter (λ j=>(G.rules[j]?.map (·.left))==some s)=(List.range i).filter (λ j=>(G.rules[j]?.map (·.left))==some s)++(if r.left=s then[i]else[]):=by
 rw[List.range_succ,G7]
 congr 1
 by_cases c:r.left=s<;>simp[h,c]
abbrev Fz(G:Gr)(k s:Nat):List PV:=((List.range k).filter λ j=>(G.rules[j]?.map (·.left))==some s).map C0
section
variable{W:Wd}(P:dR W){n:Nat}{σ:PH}{Q:PV->PH->Prop}
include P
theorem UM{nm ru lv:Addr}{ra:List Addr}{st:Int}{G:Gr}(w:G.Wf)(h1:σ nm=some (.list (G.names.map .str)))(h2:σ ru=some (.list (refs ra)))(hl:ra.length=G.rules.length)(hr:∀i b r,ra[i]? =some b->G.rules[i]? =some r->aC σ b i r)
  {m:Nat}(h3:σ lv=some (.dict [] m))(q:∀g B9,Ext σ B9->qA B9 g G->Q (.ref g) B9):J9 W (n+2) (.ref 181) [.ref nm,C0 G.tc,.ref ru,.ref lv,.none,.int st] σ Q:=by
 have wn:=w.names
 have wr:=w.rules
 refine vR P 1 2 6 (r:=oO) rfl rfl (O5:=[.ref nm,C0 G.tc,.ref ru,.ref lv,.none,.int st,.M7]) (λ _=>rfl) (λ _=>rfl) λ x dx aL L1=>?_
 have f1:=(L1.obj 0 1 rfl rfl).fld "names"
 refine Q9 rfl (FT L1 (v:=.ref nm) (xs:=G.names.map .str) (D8 rfl f1) (V6 (L1.ext _ _ h1) (by rw[A8];lia)) (λ y hy=>⟨[y],rfl⟩) λ c1 W9 l hz L2=>aE L2 rfl (C3 rfl) λ Y9 L3=>?_)
 rw[A8]at hz
 refine Q9 rfl (K7 L3 rfl λ c2 bM L4=>aE L4 rfl (C3 rfl) λ cI L5=>?_)
 refine Q9 rfl (K7 L5 rfl λ c3 eM L6=>aE L6 rfl (C3 rfl) λ eX L7=>?_)
 have f7:=(L7.obj 0 1 rfl rfl).fld "rules"
 refine oE (v:=.ref ru) (λ pre ρ B9=>∃y,ρ=[.ref x,.ref nm,C0 G.tc,.ref ru,.ref lv,.none,.int st,y]∧
   Led σ B9 [(x,.inst 181 dx),(dx,.attrs 181 [("names",.ref nm),("terminal_count",C0 G.tc),("rules",.ref ru),("levels",.ref lv),("expect",.none),("start",.int st),("by_left",.ref c1),("offsets",.ref c2),("owners",.ref c3)]),(c1,.list (refs l)),(c2,.list (((List.range pre.length).map G.off).map C0)),(c3,.list ((gQ (G.rules.take pre.length) 0).map C0))] (mB l (Fz G pre.length)))
  (D8 rfl f7) (V6 (by rw[L7.ext _ _ h2,fH,hl]) (by simp;lia)) ⟨_,rfl,L7⟩ ?_ ?_
 ·intro pre i post ρ B9 R vU hQ;intros hQ y hZ;obtain rfl:=hZ.1;delta hZ hZ L;intro hR
  have hZ:=P9 vU;delta hZ hp hi
  have TJ:pre.length=i:=by rw[hp];simp
  rw[B0,Y0,TJ]at hR
  rw[TJ]at L
  have hg:G.rules[i]? =some G.rules[i]:=C4 hi
  generalize Tx:G.rules[i]=r at hg
  have hm:r∈G.rules:=B5 hg
  have bc:ra[i]? =some (ra.getD i 0):=by rw[C2,C4 (by lia)];rfl
  have ir:=hr i _ r bc hg
  have hb:l[r.left]? =some (l[r.left]'(by have:=w.left r hm;lia)):=C4 _
  generalize l[r.left]'(by have:=w.left r hm;lia)=b at hb
  have Yh:∀{S7:PH} {L' R':List (Addr×PO)} {xs ys:List PV},Led σ S7 [(x,.inst 181 dx),(dx,.attrs 181 [("names",.ref nm),("terminal_count",C0 G.tc),("rules",.ref ru),("levels",.ref lv),("expect",.none),("start",.int st),("by_left",.ref c1),("offsets",.ref c2),("owners",.ref c3)]),(c1,.list (refs l)),(c2,.list xs),(c3,.list ys)] R'->
    fld S7 (.ref x) "by_left"=some (.ref c1)∧fld S7 (.ref x) "offsets"=some (.ref c2)∧fld S7 (.ref x) "owners"=some (.ref c3):=λ h=>⟨(h.obj 0 1 rfl rfl).fld _,(h.obj 0 1 rfl rfl).fld _,(h.obj 0 1 rfl rfl).fld _⟩
  have hZ:=Yh (L':=[]) L;delta hZ b1
  have g1:=(ir.ext L.ext).left
  have g2:=(ir.ext L.ext).number
  have ss:=I0 (k:=r.left) (x:=.ref b) (L.get 2 rfl) (by rw[H9,hb];rfl)
  refine N4 (LP (x:=C0 i) L (aD hb) ?_ ?_ ?_ λ qC _ L8=>?_)
  ·exact I8 (D8 rfl b1) (D8 rfl g1) ss
  ·exact D8 rfl g2
  ·have:((List.range i).filter λ j=>(G.rules[j]?.map (·.left))==some r.left).length<=i:=A9 (H4 ..) (by simp)
   simp;lia
  rw[yU hb]at L8
  have hZ:=Yh (L':=[]) L8;delta hZ hZ b2 b3
  have ol:(gQ (G.rules.take i) 0).length=G.off i:=pR _ _
  refine N4 (aH 3 (x:=C0 (G.off i)) L8 rfl ?_ ?_ ?_ λ IG _ L9=>?_)
  ·exact D8 rfl b2
  ·exact V8 (D8 rfl b3) (len_list (L8.get 4 rfl) ((A8 ..).trans ol))
  ·simp;lia
  have hZ:=Yh (L':=[]) L9;delta hZ hZ hZ b4
  have g3:=(ir.ext L9.ext).right
  have g4:=(ir.ext L9.ext).number
  refine N4 (T0 (v:=.ref c3) ?_ (N9 (L9.get 4 rfl) _) (F9 (O6 (K7 L9 (xs:=[C0 i]) ?_ λ c4 iW OO=>P2 (x:=C0 (r.right.length+1)) ?_ ?_))))
  ·exact D8 rfl b4
  ·exact p1 (D8 rfl g4)
  ·exact jK (V8 (D8 rfl (aC.ext OO.ext ir).right) (pV (A8 ..))) rfl rfl
  ·have w3:=w.len r hm
   have oz:=Ck (G.rules.take i) λ r hr=>w.len r (List.mem_of_mem_take hr)
   rw[Y2]at oz
   refine CF OO (OO.get 5 rfl) (by lia) λ c5 oA Gm=>M0 (NA 4 Gm rfl (Gm.get 6 rfl) (by simp;lia) λ rB _ Gl=>s_end (hR .next _ _ trivial ?_ ⟨_,rfl,?_⟩))
   ·show rB ru=eX ru
    rw[Gl.ext _ _ h2,L7.ext _ _ h2]
   ·have e1:((List.range i).map G.off).map C0++[C0 (G.off i)]=((List.range (i+1)).map G.off).map C0:=by rw[List.range_succ];simp
    have e2:(gQ (G.rules.take i) 0).map C0++List.replicate (r.right.length+1) (C0 i)=(gQ (G.rules.take (i+1)) 0).map C0:=by
     rw[List.take_add_one,hg]
     show _=(gQ (G.rules.take i++[r]) 0).map C0
     rw[AP,C1,Y2,fY (M8 hi),Y4]
     congr 1
     simp
    have e3:mB l (λ j=>if j=r.left then Fz G i r.left++[C0 i]else Fz G i j)=mB l (Fz G (i+1)):=gW λ j _=>by
     unfold Fz
     rw[Cm hg]
     by_cases c:j=r.left
     ·subst c;simp
     ·rw[G0 c,G0 (hM c)];simp
    rw[<-e1,<-e2,<-e3]
    exact Led.drop (X:=[(c4,_),(c5,_)]) Gl
 ·intro ρ B9 hQ;intros hQ y hZ;obtain rfl:=hZ.1;delta hZ hZ L
  rw[D9]at L
  have f8:=(L.obj 0 1 rfl rfl).fld "owners"
  rw[cB]at L
  refine Q9 rfl (P2 (x:=C0 G.aS.length) ?_ (aE L rfl (C3 rfl) λ S7 L'=>s_end ⟨rfl,q x S7 L'.ext ?_⟩))
  ·exact V8 (D8 rfl f8) (len_list (L.get 4 rfl) (A8 ..))
  ·have o:=L'.obj 0 1 rfl rfl
   refine⟨⟨nm,o.fld _,L'.ext _ _ h1⟩,o.fld _,⟨ru,ra,o.fld _,L'.ext _ _ h2,hl,λ i b r a1 a2=>(hr i b r a1 a2).ext L'.ext⟩,⟨lv,m,o.fld _,L'.ext _ _ h3⟩,o.fld _,⟨c1,l,o.fld _,L'.get 2 rfl,?_⟩,⟨c2,o.fld _,L'.get 3 rfl⟩,⟨c3,o.fld _,L'.get 4 rfl⟩,λ f a hf=>?_⟩
   ·have:=L'.rows
    rw[hz]at this
    exact this
   ·have m7:∀p∈([("symbol_count",122),("is_terminal",129),("rules_of",150),("item",157),("rule_of",164),("dot_of",171),("after",178)]:List (String×Addr)),dZ tb S7 (.ref x) p.1=some (.ref p.2):=
     Y8.mpr ⟨o.H2 _ rfl rfl,Y8.mpr ⟨o.H2 _ rfl rfl,Y8.mpr ⟨o.H2 _ rfl rfl,Y8.mpr ⟨o.H2 _ rfl rfl,Y8.mpr ⟨o.H2 _ rfl rfl,Y8.mpr ⟨o.H2 _ rfl rfl,Y8.mpr ⟨o.H2 _ rfl rfl,λ _ h=>(nomatch h)⟩⟩⟩⟩⟩⟩⟩
    exact m7 (f,a) hf
end
theorem XR{l:List Str}{x:Str}(h:x∈l):l[l.idxOf x]? =some x∧∀m:Nat,m<l.idxOf x->l[m]? ≠some x:=by
 have hl:=Y6.mpr h
 refine⟨by rw[C4 hl,nX hl],λ m hm e=>?_⟩
 have h2:m<l.findIdx (·==x):=hm
 have:=List.not_of_lt_findIdx h2
 rw[(D3.mp e).2]at this
 simp at this
section
variable{W:Wd}(P:dR W){n:Nat}{σ:PH}{Q:PV->PH->Prop}
include P
theorem yJ{rs:List Nat}{tc:Nat}(hz:rs.length<=20)(q:∀l:Int,Q (.int l) σ):J9 W (n+1) (.ref 198) [.tup (rs.map C0),C0 tc] σ Q:=by
 refine P.fn nB 11 rfl (ρ:=[.tup (rs.map C0),C0 tc,.M7,.M7]) rfl (P3 (x:=.int (-1)) rfl ?_)
 refine oE (l:=rs) (f:=C0) (v:=.tup (rs.map C0)) (λ _ ρ B9=>B9=σ∧∃(l:Int) (y:PV),ρ=[.tup (rs.map C0),C0 tc,.int l,y]) rfl (rO (by rw[A8];lia)) ⟨rfl, -1,.M7,rfl⟩ ?_ ?_
 ·intro pre x post ρ B9 R _ hQ;clear q;obtain rfl:=hQ.1;refine A0 hQ.2 λ l Q0=>?_;intros Q0 y P4;obtain rfl:=P4;try clear hQ;intro hR
  have ht:pt B9 [.tup (rs.map C0),C0 tc,.int l,C0 x] (.cmp .Lt (.loc 3) (.loc 1))=some (decide ((x:Int)<(tc:Int))):=rfl
  by_cases c:(x:Int)<(tc:Int)
  ·rw[H3 c]at ht
   exact qM ht (P3 (x:=C0 x) rfl (s_end (s_end (hR _ _ _ trivial trivial ⟨rfl,x,C0 x,rfl⟩))))
  ·rw[J8 c]at ht
   exact oC ht (s_end (hR _ _ _ trivial trivial ⟨rfl,l,C0 x,rfl⟩))
 ·intro ρ B9 hQ;obtain rfl:=hQ.1;refine A0 hQ.2 λ l Q0=>?_;intros Q0 y P4;clear hQ;obtain rfl:=P4;try clear hQ
  exact X8 rfl (q l)
theorem ZX{i:Nat}{r:Rl}{l:Int}(q:∀a B9,Ext σ B9->σ a=none->aC B9 a i r->Q (.ref a) B9):J9 W (n+2) (.ref 99) [C0 i,C0 r.left,.tup (r.right.map C0),.int l] σ Q:=
 tW P xA 1 0 rfl rfl (O5:=[C0 i,C0 r.left,.tup (r.right.map C0),.int l,.none,.int 0,.int 0]) (λ _=>rfl) (λ _=>rfl) λ x B9 E hx O=>q x B9 E hx ⟨l,O⟩
end
abbrev xL:=List ((Str×List Str)×Addr)
def eJ(l:List Str)(x:Str):List Str:=if x∈l then l else l++[x]
def bR(ps:xL):List Str:=ps.foldl (λ l x=>eJ l x.1.1) []
def kB(ER ns:List Str)(x:Str):List Str:=if x∈ER∨x∈ns then ns else ns++[x]
def yB:List Str:=["$end","error","$undefined"].map Str.ofString
def V3(ER:List Str)(ps:xL):List Str:=ps.foldl (λ l x=>x.1.2.foldl (kB ER) l) yB
def sS:Str:=Str.ofString "s"
def sT:Str:=Str.ofString "t"
def Q8(ps:xL):Gr:=
 let ts:=V3 [sS,sT] ps
 let ns:=ts++[Str.ofString "$accept"]++[sS,sT]
 ⟨ns,ts.length,⟨ts.length,[ns.idxOf sS,0]⟩::ps.map λ x=>⟨ns.idxOf x.1.1,x.1.2.map ns.idxOf⟩⟩
structure KR(ps:xL):Prop where
 len:ps.length<=4
 parts:∀x∈ps,x.1.2.length<=3
 left:∀x∈ps,x.1.1=sS∨x.1.1=sT
 ER:bR ps=[sS,sT]
 mem:∀x∈ps,∀y∈x.1.2,y∈(Q8 ps).names
 wf:(Q8 ps).Wf
def Hg(x:(Str×List Str)×Addr):List PV:=[.str x.1.1,.ref x.2]
def Sy(σ:PH)(a:Addr)(ps:xL):Prop:=σ a=some (.list (ps.map λ x=>.tup (Hg x)))∧∀x∈ps,σ x.2=some (.list (x.1.2.map .str))
theorem BD{x:Str}{l:List Str}:DD (.str x) (l.map .str)=some (decide (x∈l)):=by
 unfold DD
 rw[F7 ⟨rfl,qU l⟩,nP]
 congr 1
 rw[fZ,jP,P8]
 constructor
 ·intro hQ;intros hQ y hZ;delta hZ hy e;rw[<-D0 (show decide (y=x)=true from e)];exact hy
 ·intro h;exact⟨x,h,by show decide (x=x)=true;simp⟩
theorem Da{σ:PH}{a:Addr}{l:List Str}{x:Str}(h:σ a=some (.list (l.map .str))):QP σ (.str x) (.ref a)=some (decide (x∈l)):=by
 rw[BJ h];exact BD
theorem lZ{σ:PH}{a:Addr}{l:List Str}{x:Str}(h:σ a=some (.list (l.map .str))):iR σ .NotIn (.str x) (.ref a)=some (!decide (x∈l)):=C7 (Option.map (!·)) (Da h)
theorem Ah{x:Str}(h:x=sS∨x=sT):decide (x=Str.ofString "error")=false∧Txt.slice x none (some 1)=x∧(DD (.str x) [.str (Str.ofString ""),.str (Str.ofString "$"),.str (Str.ofString "'")])=some false:=by
 rcases h with rfl|rfl
 ·exact⟨by decide+kernel,by decide+kernel,BD (l:=["","$","'"].map Str.ofString)|>.trans (by rw[J8];decide+kernel)⟩
 ·exact⟨by decide+kernel,by decide+kernel,BD (l:=["","$","'"].map Str.ofString)|>.trans (by rw[J8];decide+kernel)⟩
theorem cH{α β:Type}(f:β->α->β)(b:β)(l:List α)(x:α):(l++[x]).foldl f b=f (l.foldl f b) x:=by simp
theorem OI(l:List Str)(x:Str):(eJ l x).length<=l.length+1:=by unfold eJ;split<;>simp
theorem TF(ps:xL):∀l:List Str,(ps.foldl (λ l x=>eJ l x.1.1) l).length<=l.length+ps.length:=by
 induction ps with
 |nil=>intro l;simp
 |cons x q ih=>intro l;have:=ih (eJ l x.1.1);have:=OI l x.1.1;simp only[J0,H5];lia
theorem KM(k:List Str)(xs:List Str):∀l:List Str,(xs.foldl (kB k) l).length<=l.length+xs.length:=by
 induction xs with
 |nil=>intro l;simp
 |cons x q ih=>
  intro l
  have:=ih (kB k l x)
  have:(kB k l x).length<=l.length+1:=by unfold kB;split<;>simp
  simp only[J0,H5];lia
theorem DT(k:List Str)(ps:xL)(h:∀x∈ps,x.1.2.length<=3):∀l:List Str,(ps.foldl (λ l x=>x.1.2.foldl (kB k) l) l).length<=l.length+3*ps.length:=by
 induction ps with
 |nil=>intro l;simp
 |cons x q ih=>
  intro l
  have:=ih (λ y hy=>h y (.tail _ hy)) (x.1.2.foldl (kB k) l)
  have:=KM k x.1.2 l
  have:=h x (.head _)
  simp only[J0,H5];lia
section
variable{W:Wd}{n:Nat}{σ C8:PH}{L R:List (Addr×PO)}
theorem rF(σ:PH)(v:PV):M9 σ v σ:=by cases v<;>first|trivial|rfl
theorem gT{α:Type}{l:List α}{f g:α->PV}{ys:α->List PV}{elt e:PE}{tg:Nat}{v:PV}{ρ:List PV}{Q:PV->PH->Prop}(hL:Led C8 σ L R)(h:pv σ ρ e=some v)(hv:mF σ v (l.map f))(hb:∀x∈l,eI tg (f x)=some (ys x))
  (hs:∀x∈l,∀R:PV->PH->Prop,R (g x) σ->(wp W tb n elt).v (ρ++ys x) σ R)(k:∀c B9,Ext σ B9->Led C8 B9 (L++[(c,.list (l.map g))]) R->Q (.ref c) B9):(wp W tb n (.comp elt tg e (.bool true))).v ρ σ Q:=by
 refine X5 e h ⟨_,hv,comp_map (λ pre acc B9=>B9=σ∧acc=pre.map g) ⟨rfl,rfl⟩ (λ pre x post acc B9 R hl Ve hR=>?_) λ acc B9 Vd c hc=>?_⟩
 ·delta Ve h1 h2
  clear h hv;clear k hL;subst h1 h2
  have hx:x∈l:=by rw[hl];simp
  exact⟨ys x,hb x hx,true,rfl,hs x hx _ (hR (some (g x)) _ (rF _ _) ⟨rfl,by simp⟩)⟩
 ·delta Vd h1 h2
  clear h hb hs hv tg v ys ρ;subst h1 h2
  exact k c _ (Ext.new hc _) (hL.alloc hc _)
end
section
variable{W:Wd}{n:Nat}{σ:PH}{ρ:List PV}{Q:PV->PH->Prop}{B:Bool->PH->Prop}
theorem VP{a b:PE}(h:(wp W tb n a).t ρ σ λ t B4=>match t with|false=>(wp W tb n b).t ρ B4 B|true=>B true B4):(wp W tb n (.or a b)).t ρ σ B:=h
theorem IL{a b:PE}(h:(wp W tb n a).t ρ σ λ t B4=>match t with|true=>(wp W tb n b).t ρ B4 B|false=>B false B4):(wp W tb n (.and a b)).t ρ σ B:=h
theorem zM{a:PE}(h:(wp W tb n a).t ρ σ λ t B4=>B (!t) B4):(wp W tb n (.not a)).t ρ σ B:=h
theorem rC{o lo hi:PE}{x:Str}{y z:PV}{l h:Option Int}(ho:pv σ ρ o=some (.str x))(hl:pv σ ρ lo=some y)(hh:pv σ ρ hi=some z)(bl:Ga y=some l)(bh:Ga z=some h)(k:Q (.str (Txt.slice x l h)) σ):(wp W tb n (.wQ o lo hi)).v ρ σ Q:=
 X5 o ho (X5 lo hl (X5 hi hh ⟨l,h,bl,bh,k⟩))
theorem v_ite{c a b:PE}(h:(wp W tb n c).t ρ σ λ t B4=>match t with|true=>(wp W tb n a).v ρ B4 Q|false=>(wp W tb n b).v ρ B4 Q):(wp W tb n (.ite c a b)).v ρ σ Q:=h
theorem Vi{q:Nat}{xs:List String}(k:Q (.tup (xs.map λ s=>.str (Str.ofString s))) σ):(wp W tb n (.gs q xs)).v ρ σ Q:=k
theorem bQ{as:uM}(k:DO W tb n as ρ σ λ xs B4=>∀c,B4 c=none->Q (.ref c) (B4.set c (.list xs))):(wp W tb n (.list as)).v ρ σ Q:=k
end
section
variable{W:Wd}(P:dR W){n:Nat}{σ:PH}{Q:PV->PH->Prop}
include P
theorem Fk{pl:Addr}{ps:xL}(ok:KR ps)(hP:Sy σ pl ps)(q:∀g B9,Ext σ B9->qA B9 g (Q8 ps)->Q (.ref g) B9):J9 W (n+3) (.ref 204) [.ref pl] σ Q:=by
 have lz:=ok.len
 refine P.fn mY 12 rfl (ρ:=[.ref pl,.none,.M7,.M7,.M7,.M7,.M7,.M7,.M7,.M7,.M7]) rfl ?_
 refine K1 (K7 (Led.start σ) rfl λ c2 aL L1=>?_)
 have st:∀B9 S7:PH,Ext σ B9->Ext σ S7->M9 B9 (.ref pl) S7:=λ B9 S7 E' E=>by show S7 pl=B9 pl;rw[E _ _ hP.1,E' _ _ hP.1]
 refine GG (l:=ps) (f:=Hg) (v:=.ref pl) (λ pre ρ B9=>∃y z:PV,ρ=[.ref pl,.none,.ref c2,y,z,.M7,.M7,.M7,.M7,.M7,.M7]∧Led σ B9 [(c2,.list ((bR pre).map .str))] []) rfl (V6 (L1.ext _ _ hP.1) (by rw[A8];lia)) (λ _ _=>rfl) ⟨.M7,.M7,rfl,L1⟩ ?_ ?_
 ·intro pre x post ρ B9 R hl hQ;intros hQ y hZ;intros hZ z Q0;obtain rfl:=Q0.1;delta Q0 Q0 L;intro hR
  have hx:x∈ps:=by rw[hl];simp
  have hZ:=Ah (ok.left x hx);delta hZ b1 b2 b3
  have pz:(bR pre).length<=pre.length:=by have:=TF pre [];simpa[bR]using this
  have Vt:pre.length<ps.length:=by rw[hl];simp
  have e:bR (pre++[x])=eJ (bR pre) x.1.1:=cH ..
  refine Cc (VP (uT (t:=false) (by rw[<-b1];rfl) (iD (rC (x:=x.1.1) rfl rfl rfl rfl rfl (P2 rfl ⟨false,by rw[b2];exact b3,s_end ?_⟩)))))
  have ht:pt B9 [.ref pl,.none,.ref c2,.str x.1.1,.ref x.2,.M7,.M7,.M7,.M7,.M7,.M7] (.cmp .NotIn (.loc 3) (.loc 2))=some (!decide (x.1.1∈bR pre)):=by
   exact N3 rfl rfl (lZ (L.get 0 rfl))
  by_cases c:x.1.1∈bR pre
  ·rw[H3 c]at ht
   refine oC ht (s_end (hR _ _ _ trivial (st _ _ L1.ext L.ext) ⟨_,_,rfl,?_⟩))
   rw[e,eJ,F7 c];exact L
  ·rw[J8 c]at ht
   refine qM ht (N4 (aH 0 L rfl rfl rfl (by rw[A8];lia) λ W9 _ L2=>s_end (s_end (hR _ _ _ trivial (st _ _ L1.ext L2.ext) ⟨_,_,rfl,?_⟩))))
   rw[e,eJ,G0 c,C1];exact L2
 ·intro ρ B9 hQ;intros hQ y hZ;intros hZ z Q0;clear L1 aL;obtain rfl:=Q0.1;delta Q0 Q0 L
  rw[ok.ER]at L
  have f1:=L.get 0 rfl
  refine K1 (v_ite (VP (uT (t:=false) rfl (iD (P2 rfl (K7 L rfl λ c3 W9 L2=>⟨false,?_,P2 (x:=.str sS) ?_ ?_⟩))))))
  ·show Ij _ _ _=_;unfold Ij;rw[L2.get 0 rfl,L2.get 1 rfl];rfl
  ·exact I8 rfl rfl (I0 (k:=0) (L2.get 0 rfl) rfl)
  refine oC ?_ ?_
  ·exact N3 rfl rfl ((lZ (l:=[sS,sT]) (L2.get 0 rfl)).trans (C7 (λ b=>some (!b)) (H3 (.head _))))
  have k0:=Led.drop (X:=[(c3,_)]) (L:=[(c2,_)]) L2
  clear L2 L f1
  refine K1 (T5 (F9 (Vi (M0 (CH (by simp) λ c6 Lj=>?_)))))
  have L3:=k0.alloc Lj (.list (yB.map .str))
  show S8 W tb (n+2) _ [.ref pl,.none,.ref c2,y,z,.str sS,.ref c6,.M7,.M7,.M7,.M7] (W9.set c6 (.list (yB.map .str))) _
  generalize W9.set c6 (.list (yB.map .str))=Y9 at L3
  refine GG (l:=ps) (f:=Hg) (v:=.ref pl) (λ pre ρ B9=>∃y z w:PV,ρ=[.ref pl,.none,.ref c2,y,z,.str sS,.ref c6,w,.M7,.M7,.M7]∧Led σ B9 [(c2,.list ([sS,sT].map .str)),(c6,.list ((V3 [sS,sT] pre).map .str))] []) rfl (V6 (L3.ext _ _ hP.1) (by rw[A8];lia)) (λ _ _=>rfl) ⟨_,_,_,rfl,L3⟩ ?_ ?_
  ·intro pre x post ρ B9 R hl hQ;intros hQ y hZ;intros hZ z Q0;intros Q0 w P4;obtain rfl:=P4.1;delta P4 P4 L;intro hR
   have hx:x∈ps:=by rw[hl];simp
   have xz:=ok.parts x hx
   have tz:(V3 [sS,sT] pre).length<=3+3*pre.length:=DT _ pre (λ y hy=>ok.parts y (by rw[hl];simp[hy])) yB
   have Vt:pre.length<ps.length:=by rw[hl];simp
   have e:V3 [sS,sT] (pre++[x])=x.1.2.foldl (kB [sS,sT]) (V3 [sS,sT] pre):=cH ..
   have hp:=hP.2 x hx
   refine oE (l:=x.1.2) (f:=.str) (v:=.ref x.2) (λ p2 ρ S7=>∃w:PV,ρ=[.ref pl,.none,.ref c2,.str x.1.1,.ref x.2,.str sS,.ref c6,w,.M7,.M7,.M7]∧Led σ S7 [(c2,.list ([sS,sT].map .str)),(c6,.list ((p2.foldl (kB [sS,sT]) (V3 [sS,sT] pre)).map .str))] []) rfl (V6 (L.ext _ _ hp) (by rw[A8];lia)) ⟨_,rfl,L⟩ ?_ ?_
   ·intro p2 t iI ρ S7 R2 fN hQ;intros hQ w hZ;obtain rfl:=hZ.1;delta hZ hZ M;intro bS
    have Pi:∀Y9:PH,Ext σ Y9->M9 B9 (.ref x.2) Y9:=λ Y9 E=>by show Y9 x.2=B9 x.2;rw[E _ _ hp,L.ext _ _ hp]
    have az:=KM [sS,sT] p2 (V3 [sS,sT] pre)
    have Tl:p2.length<x.1.2.length:=by rw[fN];simp
    rw[cH]at bS
    generalize p2.foldl (kB [sS,sT]) (V3 [sS,sT] pre)=ns at*
    have ht:pt S7 [.ref pl,.none,.ref c2,.str x.1.1,.ref x.2,.str sS,.ref c6,.str t,.M7,.M7,.M7] (.and (.cmp .NotIn (.loc 7) (.loc 2)) (.cmp .NotIn (.loc 7) (.loc 6)))=some (!(decide (t∈[sS,sT])||decide (t∈ns))):=(jQ (N3 rfl rfl (lZ (M.get 0 rfl))) (N3 rfl rfl (lZ (M.get 1 rfl)))).trans (by rw[Bool.not_or])
    unfold kB at bS
    by_cases c:t∈[sS,sT]∨t∈ns
    ·rw[show(decide (t∈[sS,sT])||decide (t∈ns))=true from by simpa using c]at ht
     rw[F7 c]at bS
     exact oC ht (s_end (bS _ _ _ trivial (Pi _ M.ext) ⟨_,rfl,M⟩))
    ·rw[show(decide (t∈[sS,sT])||decide (t∈ns))=false from by simpa using c]at ht
     rw[G0 c,C1]at bS
     refine qM ht (N4 (aH 1 M rfl rfl rfl (by rw[A8];lia) λ bM _ M2=>s_end (s_end (bS _ _ _ trivial (Pi _ M2.ext) ⟨_,rfl,M2⟩))))
   ·intro ρ S7 hQ;intros hQ w hZ;obtain rfl:=hZ.1;delta hZ hZ M
    exact s_end (hR _ _ _ trivial (st _ _ L3.ext M.ext) ⟨_,_,_,rfl,by rw[e];exact M⟩)
  ·intro ρ B9 hQ;intros hQ y hZ;intros hZ z Q0;intros Q0 w P4;clear k0 L3 c3 Lj;obtain rfl:=P4.1;delta P4 P4 L
   have tz:(V3 [sS,sT] ps).length<=3+3*ps.length:=DT _ ps ok.parts yB
   have Bh:(Q8 ps).names=V3 [sS,sT] ps++[Str.ofString "$accept"]++[sS,sT]:=rfl
   have Wr:(Q8 ps).tc=(V3 [sS,sT] ps).length:=rfl
   have a5:(Q8 ps).rules=⟨(Q8 ps).tc,[(Q8 ps).names.idxOf sS,0]⟩::ps.map λ x=>⟨(Q8 ps).names.idxOf x.1.1,x.1.2.map (Q8 ps).names.idxOf⟩:=rfl
   have wn:=ok.wf.names
   have mS:sS∈(Q8 ps).names:=by rw[Bh];simp
   have mL:∀x∈ps,x.1.1∈(Q8 ps).names:=λ x hx=>by rcases ok.left x hx with h|h<;>(rw[h,Bh];simp)
   have ix:∀{x:Str} {B9:PH} {c:Addr} {R:PV->PH->Prop} (_:x∈(Q8 ps).names),B9 c=some (.list ((Q8 ps).names.map .str))->R (C0 ((Q8 ps).names.idxOf x)) B9->J9 W (n+2) (.builtin "list.index") [.ref c,.str x] B9 R:=λ hm hc hR=>Cq hc (XR hm).1 (XR hm).2 (by lia) hR
   refine P3 (x:=C0 (Q8 ps).tc) ?_ (K1 (O6 (O6 (P2 rfl (K7 L rfl λ c7 bM L4=>gH L4 (L4.get 1 rfl) (L4.get 2 rfl) (by simp;lia) λ c8 cI L5=>P2 rfl (gH L5 (L5.get 3 rfl) (L5.get 0 rfl) (by simp;lia) λ c9 eM L6=>?_))))))
   ·exact V8 rfl (len_list (L.get 1 rfl) (A8 ..))
   have L7:Led σ eM [(c9,.list ((Q8 ps).names.map .str))] []:=L6.sub (by
    rw[Bh,C1,C1]
    exact List.Sublist.cons _ (.cons _ (.cons _ (.cons _ (.refl _)))))
   show S8 W tb (n+2) _ [.ref pl,.none,.ref c2,y,z,.str sS,.ref c9,w,C0 (Q8 ps).tc,.M7,.M7] eM _
   clear L4 L5 L6 L st
   have f7:=L7.get 0 rfl
   have Ha:(Q8 ps).rules[0]? =some ⟨(Q8 ps).tc,[(Q8 ps).names.idxOf sS,0]⟩:=rfl
   refine K1 (bQ (F9 (T5 (F9 (P2 rfl (F9 (P2 rfl (F9 (dM (F9 (J1 rfl (N9 f7 _) rfl (ix mS f7 (F9 (P2 rfl (M0 (F9 (P2 rfl (M0 (ZX (n:=n) P (i:=0) (r:=⟨(Q8 ps).tc,[(Q8 ps).names.idxOf sS,0]⟩) (l:=0) λ a0 eX E7 h7 R0=>M0 λ Aa Lk=>?_)))))))))))))))))))
   have L8:=(L7.grow E7).alloc Lk (.list (refs [a0]))
   have R8:=R0.ext (Ext.new Lk (.list (refs [a0])))
   show S8 W tb (n+2) _ [.ref pl,.none,.ref c2,y,z,.str sS,.ref c9,w,C0 (Q8 ps).tc,.ref Aa,.M7] (eX.set Aa (.list (refs [a0]))) _
   generalize eX.set Aa (.list (refs [a0]))=qC at L8 R8
   clear R0 h7 Lk E7 L7 f7
   refine GG (l:=ps) (f:=Hg) (v:=.ref pl) (λ pre ρ B9=>∃(y z v:PV) (ra:List Addr),ρ=[.ref pl,.none,.ref c2,y,z,.str sS,.ref c9,w,C0 (Q8 ps).tc,.ref Aa,v]∧Led σ B9 [(c9,.list ((Q8 ps).names.map .str)),(Aa,.list (refs ra))] []∧
    ra.length=pre.length+1∧∀i b r,ra[i]? =some b->(Q8 ps).rules[i]? =some r->aC B9 b i r) rfl (V6 (L8.ext _ _ hP.1) (by rw[A8];lia)) (λ _ _=>rfl) ⟨y,z,.M7,[a0],rfl,L8,rfl,λ i b r h1 h2=>?_⟩ ?_ ?_
   ·cases i with
    |zero=>cases h1;rw[Ha]at h2;cases h2;exact R8
    |succ=>simp at h1
   ·intro pre x post ρ B9 R hl hQ;intros hQ y hZ;intros hZ z Q0;intros Q0 v P4;intros P4 ra fU;clear R8 c6 c7 c8 Bh Wr Ha tz wn eM eX;obtain rfl:=fU.1;delta fU fU M Ty Xj;intro hR
    have hx:x∈ps:=by rw[hl];simp
    have xz:=ok.parts x hx
    have Vt:pre.length<ps.length:=by rw[hl];simp
    have hg:(Q8 ps).rules[ra.length]? =some ⟨(Q8 ps).names.idxOf x.1.1,x.1.2.map (Q8 ps).names.idxOf⟩:=by
     rw[Ty,a5,gN,H9,hl,N2 (D7 _)]
     simp
    refine K1 (T5 (F9 (gT (l:=x.1.2) (f:=.str) (g:=λ y=>C0 ((Q8 ps).names.idxOf y)) (ys:=λ y=>[.str y]) M (v:=.ref x.2) rfl (V6 (M.ext _ _ (hP.2 x hx)) (by rw[A8];lia)) (λ _ _=>rfl)
     (λ y hy R hR=>J1 rfl (N9 (M.get 0 rfl) _) rfl (ix (ok.mem x hx y hy) (M.get 0 rfl) hR)) λ j6 W9 E2 M2=>M0 (mP (M2.get 2 rfl) (by rw[A8];lia) ?_))))
    rw[show x.1.2.map (λ y=>C0 ((Q8 ps).names.idxOf y))=(x.1.2.map (Q8 ps).names.idxOf).map C0 from by rw[G2];rfl]at M2 ⊢
    have M3:=Led.drop (X:=[(j6,_)]) (L:=[(c9,_),(Aa,_)]) M2
    have g9:=M3.get 0 rfl
    refine N4 (T0 rfl (N9 (M3.get 1 rfl) _) (F9 (T5 (F9 (P2 (x:=C0 ra.length) ?_ (F9 (J1 rfl (N9 g9 _) rfl (ix (mL x hx) g9 (F9 (P2 rfl (F9 (H7 rfl (yJ P (rs:=x.1.2.map (Q8 ps).names.idxOf) (by rw[A8];lia) λ lt=>M0 (ZX (n:=n) P (i:=ra.length) (r:=⟨(Q8 ps).names.idxOf x.1.1,x.1.2.map (Q8 ps).names.idxOf⟩) (l:=lt) λ a1 Y9 E3 h3 R1=>M0 ?_))))))))))))))
    ·exact V8 rfl (len_list (M3.get 1 rfl) (A8 ..))
    ·have M4:=M3.grow E3
     refine aX 1 M4 rfl (by rw[A8];lia) λ bM O4 M5=>s_end (hR _ _ _ trivial (by show bM pl=qC pl;rw[M5.ext _ _ hP.1,L8.ext _ _ hP.1]) ⟨_,_,_,ra++[a1],rfl,by rw[refs,C1];exact M5,by simp[Ty],λ i b r h1 h2=>?_⟩)
     rw[List.getElem?_append]at h1
     split at h1
     ·exact(((Xj i b r h1 h2).ext E2).ext E3).obs O4
     ·rename_i c
      have:i=ra.length:=by
       have:=(D3.mp h1).1
       simp at this;lia
      clear E2 E3 L8 M2 M3 M4 M5 a0 c j6 g9 h3 hP hR hl hx lt mL pl post Vt w xz W9 qC;subst this
      rw[hU]at h1
      cases h1
      rw[hg]at h2;cases h2
      exact R1.obs O4
   ·intro ρ B9 hQ;intros hQ y hZ;intros hZ z Q0;intros Q0 v P4;intros P4 ra fU;obtain rfl:=fU.1;delta fU fU M Ty Xj
    have fN:ra.length=(Q8 ps).rules.length:=by rw[Ty,a5];simp
    refine W3 (T5 (F9 (P2 rfl (F9 (P2 rfl (F9 (P2 rfl (F9 (OX λ fq Rf=>?_)))))))))
    have M6:=M.alloc Rf (.dict [] 0)
    have E6:=Ext.new Rf (.dict [] 0)
    refine F9 (P2 rfl (F9 (J1 rfl (N9 (M6.get 0 rfl) _) rfl (ix mS (M6.get 0 rfl) (M0 (UM (n:=n) P ok.wf (M6.get 0 rfl) (M6.get 1 rfl) fN (λ i b r h1 h2=>(Xj i b r h1 h2).ext E6) (M6.get 2 rfl) λ g cI E5 G5=>q g cI (M6.ext.trans E5) G5))))))
end
def zQ(W:Wd)(n:Nat)(r:V0)(K:Fl->List PV->PH->Prop):Fl->List PV->PH->Prop:=λ fl O5 B9=>match fl with
  |.next=>S8 W tb n r O5 B9 K
  |.brk=>K .brk O5 B9
  |.cont=>K .cont O5 B9
  |.ret v=>K (.ret v) O5 B9
section
variable{W:Wd}{n:Nat}{σ:PH}{ρ:List PV}{r b b':V0}{K:Fl->List PV->PH->Prop}{Q:PV->PH->Prop}{B:Bool->PH->Prop}{e e' KD:PE}{i:Nat}{x v:PV}
theorem O7(h:S8 W tb n r ρ σ K):S8 W tb n .nil ρ σ (zQ W n r K):=h
theorem MH(h:K .cont ρ σ):S8 W tb n (.cons .cont b) ρ σ (zQ W n r K):=h
theorem qS(h:(wp W tb n e).v ρ σ λ x B4=>K (.ret x) ρ B4):S8 W tb n (.cons (.ret e) b) ρ σ (zQ W n r K):=h
theorem dA{t:Bool}(h:pt σ ρ e=some t)(hT:t=true->S8 W tb n b ρ σ (zQ W n r K))(hF:t=false->S8 W tb n b' ρ σ (zQ W n r K)):S8 W tb n (.cons (.ite e b b') r) ρ σ K:=Jr h (by clear h;cases t;exact hF rfl;exact hT rfl)
theorem f_1{α:Type}{l:List α}{f:α->PV}{y:PV}{F:PV->List PV}(I:List α->PV->PH->Prop)(HC:ρ=F y)(h:pv σ ρ e=some v)(hv:mF σ v (l.map f))(h0:I [] y σ)
  (hs:∀pre x post y B9 (R:Fl->List PV->PH->Prop),l=pre++x::post->I pre y B9->(∀fl y B9,fl.go->M9 σ v B9->I (pre++[x]) y B9->R fl (F y) B9)->S8 W tb n b ((F y).set i (f x)) B9 R)
  (hk:∀y σ,I l y σ->S8 W tb n r (F y) σ K):S8 W tb n (.cons (.R6 i e b) r) ρ σ K:=
 oE (λ pre ρ σ=>∃y,ρ=F y∧I pre y σ) h hv ⟨y,HC,h0⟩ (λ pre x post ρ B9 R e ⟨y,e',h⟩ k=>e'▸hs pre x post y B9 R e h λ fl y B9 g s h=>k fl _ B9 g s ⟨y,rfl,h⟩) λ ρ σ ⟨y,e',h⟩=>e'▸hk y σ h
theorem f_2{α:Type}{l:List α}{f:α->PV}{y z:PV}{F:PV->PV->List PV}(I:List α->PV->PV->PH->Prop)(HC:ρ=F y z)(h:pv σ ρ e=some v)(hv:mF σ v (l.map f))(h0:I [] y z σ)
  (hs:∀pre x post y z B9 (R:Fl->List PV->PH->Prop),l=pre++x::post->I pre y z B9->(∀fl y z B9,fl.go->M9 σ v B9->I (pre++[x]) y z B9->R fl (F y z) B9)->S8 W tb n b ((F y z).set i (f x)) B9 R)
  (hk:∀y z σ,I l y z σ->S8 W tb n r (F y z) σ K):S8 W tb n (.cons (.R6 i e b) r) ρ σ K:=
 oE (λ pre ρ σ=>∃y z,ρ=F y z∧I pre y z σ) h hv ⟨y,z,HC,h0⟩ (λ pre x post ρ B9 R e ⟨y,z,e',h⟩ k=>e'▸hs pre x post y z B9 R e h λ fl y z B9 g s h=>k fl _ B9 g s ⟨y,z,rfl,h⟩) λ ρ σ ⟨y,z,e',h⟩=>e'▸hk y z σ h
theorem f_3{α:Type}{l:List α}{f:α->PV}{y z w:PV}{F:PV->PV->PV->List PV}(I:List α->PV->PV->PV->PH->Prop)(HC:ρ=F y z w)(h:pv σ ρ e=some v)(hv:mF σ v (l.map f))(h0:I [] y z w σ)
  (hs:∀pre x post y z w B9 (R:Fl->List PV->PH->Prop),l=pre++x::post->I pre y z w B9->(∀fl y z w B9,fl.go->M9 σ v B9->I (pre++[x]) y z w B9->R fl (F y z w) B9)->S8 W tb n b ((F y z w).set i (f x)) B9 R)
  (hk:∀y z w σ,I l y z w σ->S8 W tb n r (F y z w) σ K):S8 W tb n (.cons (.R6 i e b) r) ρ σ K:=
 oE (λ pre ρ σ=>∃y z w,ρ=F y z w∧I pre y z w σ) h hv ⟨y,z,w,HC,h0⟩ (λ pre x post ρ B9 R e ⟨y,z,w,e',h⟩ k=>e'▸hs pre x post y z w B9 R e h λ fl y z w B9 g s h=>k fl _ B9 g s ⟨y,z,w,rfl,h⟩) λ ρ σ ⟨y,z,w,e',h⟩=>e'▸hk y z w σ h
end
section
variable{W:Wd}{n:Nat}{σ C8:PH}{ρ:List PV}{e e':PE}{v w x:PV}{Q:PV->PH->Prop}{L R:List (Addr×PO)}
theorem V5{α β:Type}{f:α->β}{l:List α}{k:Nat}{y:α}(h:l[k]? =some y):(l.map f)[k]? =some (f y):=by rw[H9,h];rfl
theorem HR{a:Addr}{xs:List PV}(hL:Led C8 σ L R)(e:σ a=some (.list xs))(hz:xs.length<=2^24)(k:∀c B9,Ext σ B9->Led C8 B9 (L++[(c,.list xs)]) R->Q (.ref c) B9):J9 W n (.type "list") [.ref a] σ Q:=
 pH e hz λ c hc=>k c _ (Ext.new hc _) (hL.alloc hc _)
end
inductive dc(G:Gr)(σ:PH)(c2 c3 c4 c5:Addr)(l:List Addr)(k b m:Nat)(B9:PH):Prop
 |mk (fd:List Bool) (lk:List Int) (f:Nat->List Nat) (qu:List Nat) (hf:fd.length=G.names.length) (hl:lk.length=k) (hu:∀s,∀x∈f s,x<G.rules.length) (hb:∀s,(f s).length<=b) (hq:∀x∈qu,x<G.names.length)
  (hm:fd.countP (!·)+qu.length=m) (L:Led σ B9 [(c2,.list (fd.map .bool)),(c3,.list (lk.map .int)),(c4,.list (refs l)),(c5,.list (qu.map C0))] (mB l λ s=>(f s).map C0))
inductive j8(G:Gr)(σ:PH)(c2 c3 c4 c5:Addr)(l:List Addr)(f:Nat->List Nat)(m:Nat)(B9:PH)(qz:Nat):Prop
 |mk (fd:List Bool) (lk:List Int) (qu:List Nat) (hf:fd.length=G.names.length) (hl:lk.length=G.rules.length) (hq:∀x∈qu,x<G.names.length) (hz:qz<=qu.length)
  (hm:fd.countP (!·)+qu.length=m) (L:Led σ B9 [(c2,.list (fd.map .bool)),(c3,.list (lk.map .int)),(c4,.list (refs l)),(c5,.list (qu.map C0))] (mB l λ s=>(f s).map C0))
theorem countP_set{fd:List Bool}{i:Nat}(h:fd[i]? =some false):(fd.set i true).countP (!·)+1=fd.countP (!·):=by
 induction fd generalizing i with
 |nil=>simp at h
 |cons b r ih=>
  cases i with
  |zero=>simp at h;subst h;simp
  |succ i=>have:=ih (by simpa using h);simp only[gD,List.countP_cons];lia
theorem W8{α:Type}{σ:PH}{a:Addr}{l:List α}{f:α->PV}{i:Nat}(d:α)(h:σ a=some (.list (l.map f)))(hi:i<l.length):gE σ (.ref a) (C0 i)=some (f (l.getD i d)):=I0 h (V5 (by rw[C2,C4 hi];rfl))
theorem W5{α:Type}{l:List α}{i:Nat}(d:α)(hi:i<l.length):l[i]? =some (l.getD i d):=by rw[C2,C4 hi];rfl
theorem P5{α:Type}{l pre post:List α}{x:α}(h:l=pre++x::post):pre.length<l.length∧x∈l:=by subst h;exact⟨by simp,by simp⟩
theorem lz{α β:Type}{l:List α}{f:α->β}{k:Nat}(h:l.length=k)(hk:k<=16777216):(l.map f).length<=2^24:=by rw[A8];exact A9 (X0 h) hk
theorem GW{α β:Type}{l:List α}{f:α->β}{k:Nat}(h:l.length<=k)(hk:k<=16777216):(l.map f).length<=2^24:=by rw[A8];exact A9 h hk
theorem Cr{α β:Type}{l:List α}{f:α->β}{i k:Nat}(h:l.length=k)(hi:i<k):i<(l.map f).length:=by rw[A8,h];exact hi
theorem VW{α β:Type}{l:List α}{f:α->β}(i:Nat)(y:α){C:List β->Prop}(h:C ((l.map f).set i (f y))):C ((l.set i y).map f):=by rw[iB];exact h
theorem US{α β:Type}{l:List α}{f:α->β}(y:α){C:List β->Prop}(h:C (l.map f++[f y])):C ((l++[y]).map f):=by rw[C1];exact h
theorem Sp{a b:Bool}(h:(a&&!b)=true):b=false:=by cases b;rfl;rw[Bool.not_true,Bool.and_false]at h;cases h
theorem T8{α:Type}{p:α->Prop}{l:List α}{x:α}(h:∀y∈l,p y)(hx:p x):∀y∈l++[x],p y:=λ y hy=>by
 rcases G9.mp hy with h'|h'
 ·exact h y h'
 ·rw[D5.mp h'];exact hx
section
variable{W:Wd}(P:dR W){n:Nat}{σ:PH}{g:Addr}{G:Gr}(hG:qA σ g G)(w:G.Wf){Q:PV->PH->Prop}
include P hG w
omit P in
theorem zU:∃a ra,fld σ (.ref g) "rules"=some (.ref a)∧σ a=some (.list (refs ra))∧ra.length=G.rules.length∧mF σ (.ref a) ((List.range G.rules.length).map λ i=>.ref (ra.getD i 0))∧∀i,i<G.rules.length->∃r,G.rules[i]? =some r∧r∈G.rules∧aC σ (ra.getD i 0) i r:=by
 refine ee2.e (hG.rules) λ a ra hZ=>?_;delta hZ h1 h2 h3 h4
 have:=w.rules
 refine⟨a,ra,h1,h2,h3,V6 (by rw[h2,fH,h3]) (by simp;lia),λ i hi=>?_⟩
 have hg:G.rules[i]? =some G.rules[i]:=C4 hi
 exact⟨_,hg,B5 hg,h4 i _ _ (by rw[C2,C4 (by lia)];rfl) hg⟩
theorem ZQ{kn:Addr}{bs:List Bool}(hk:σ kn=some (.list (bs.map .bool)))(hz:bs.length=G.names.length)
  (q:∀c B9 (fd:List Bool),Ext σ B9->σ c=none->fd.length=G.names.length->B9 c=some (.list (fd.map .bool))->Q (.ref c) B9):J9 W (n+1) (.ref 209) [.ref g,.ref kn] σ Q:=by
 have wn:=w.names
 have wr:=w.rules
 have zn:G.names.length<=16777216:=A9 wn (by decide)
 have zr:G.rules.length<=16777216:=A9 wr (by decide)
 refine ee2.e (zU hG w) λ ru ra hZ=>?_;delta hZ r1 r2 r3 r4 r5
 refine P.fn IY 13 rfl (ρ:=[.ref g,.ref kn,.M7,.M7,.M7,.M7,.M7,.M7,.M7,.M7,.M7,.M7]) rfl ?_
 refine K1 (H7 rfl (HR (Led.start σ) hk (lz hz zn) λ c2 aL _ L1=>K1 (K7 L1 rfl λ c3 W9 L2=>K1 (FT L2 (v:=.ref c2) (xs:=bs.map .bool) rfl (V6 (L2.get 0 rfl) (lz hz zn)) (λ y hy=>⟨[y],rfl⟩) λ c4 Y9 l hl L3=>K1 (K7 L3 rfl λ c5 bM L4=>?_)))))
 rw[A8,hz]at hl
 have V4:∀{B9:PH} {L R:List (Addr×PO)},Led σ B9 L R->M9 bM (.ref ru) B9:=λ h=>(h.ext _ _ r2).trans (L4.ext _ _ r2).symm
 have Tq:∀{B9:PH},Ext σ B9->mF B9 (.ref ru) ((List.range G.rules.length).map λ i=>.ref (ra.getD i 0)):=λ E=>V6 (by rw[E _ _ r2,fH,r3]) (by simp;lia)
 have row:=λ s hs=>W5 (l:=l) (i:=s) 0 (Nat.lt_of_lt_of_eq hs hl.symm)
 let F:PV->PV->PV->PV->PV->PV->List PV:=λ a b c d e f=>[.ref g,.ref kn,.ref c2,.ref c3,.ref c4,.ref c5,a,b,c,d,e,f]
 let J:=dc G σ c2 c3 c4 c5 l
 refine f_3 (v:=.ref ru) (F:=λ a b c=>F a b c .M7 .M7 .M7) (λ pre _ _ _ B9=>J pre.length (4*pre.length) (bs.countP (!·)) B9) rfl (D8 rfl (U8 L4.ext r1)) (Tq L4.ext)
  (.mk bs [] (λ _=>[]) [] hz rfl (λ _ _ h=>(nomatch h)) (λ _=>D7 _) (λ _ h=>(nomatch h)) rfl L4) ?_ ?_
 ·intro pre i post v6 v7 v8 B9 R vU hQ;clear L1 L2 L4 P hG hk hl r4 wn zr W9;obtain⟨fd,lk,f,qu,hf,yE,hu,hb,hq,hm,L⟩:=hQ;intro hR
  have hZ:=P9 vU;delta hZ hp hi
  have TJ:pre.length=i:=by rw[hp];simp
  refine A0 (r5 i hi) λ r hZ=>?_;delta hZ hZ LF ir
  have w3:=w.len r LF
  refine P3 rfl (f_2 (l:=r.right) (f:=C0) (v:=.tup (r.right.map C0)) (F:=λ a b=>F (.ref (ra.getD i 0)) a b .M7 .M7 .M7) (λ p2 y _ S7=>∃m,y=.int m∧J pre.length (4*pre.length+p2.length) (bs.countP (!·)) S7) rfl
   (D8 rfl ((ir.ext L.ext).right)) (rO (GW w3 (by decide))) ⟨_,rfl,.mk fd lk f qu hf yE hu hb hq hm L⟩ ?_ ?_)
  ·intro p2 s iI _ v8 S7 R2 fN hQ;intros hQ m hZ;obtain rfl:=hZ.1;obtain⟨fd,lk,f,qu,hf,yE,hu,hb,hq,hm,L⟩:=hZ.2;try clear hZ;intro bS
   have Hw:=P5 fN
   have hs:=w.sym r LF s Hw.2
   have ha:=row s hs
   refine dA (ML (AD (I8 rfl rfl (W8 false (L.get 0 rfl) (hf.symm▸hs))))) (λ _=>?_) λ _=>O7 (bS .next _ _ _ trivial trivial ⟨_,rfl,.mk fd lk f qu hf yE hu (λ s=>A9 (hb s) (bW (by rw[B0];exact J6 ..) _)) hq hm L⟩)
   have h1:=hb s;have h2:=Hw.1
   refine P3 (x:=.int (m+1)) rfl (N4 (LP (x:=C0 i) (i:=s) L (aD ha) (I8 rfl rfl (I0 (L.get 2 rfl) (V5 ha))) (D8 rfl ((ir.ext L.ext).number)) (GW h1 (by lia)) λ cI _ L5=>O7 (bS .next _ _ _ trivial trivial ⟨_,rfl,?_⟩)))
   rw[yU ha]at L5
   refine .mk fd lk (λ j=>if j=s then f s++[i]else f j) qu hf yE (λ j=>?_) (λ j=>?_) hq hm ((gW λ j _=>?_)▸L5)
   ·split
    ·exact T8 (hu s) hi
    ·exact hu j
   ·have h2:=hb j
    rw[B0,Y0]
    split
    ·rw[B0,Y0];lia
    ·lia
   ·split
    ·rename_i e;clear h1 h2 Hw;clear L5 bS ha fN;subst e;exact(C1 (f:=C0) (l₂:=[i])).symm
    ·rfl
  ·intro _ v8 S7 hQ;intros hQ m hZ;obtain rfl:=hZ.1;obtain⟨fd,lk,f,qu,hf,yE,hu,hb,hq,hm,L⟩:=hZ.2;try clear hZ
   refine N4 (aH 1 (x:=.int m) L rfl rfl rfl (lz yE (by lia)) λ cI _ L5=>s_end (hR .next _ _ _ _ trivial (V4 L5) (.mk fd (lk++[m]) f qu hf (by rw[B0,B0,yE];rfl) hu (λ s=>A9 (hb s) (by rw[B0,Y0];lia)) hq hm (US (C:=λ z=>Led σ cI [_,(c3,.list z),_,_] _) m L5))))
 ·intro v6 v7 v8 B9 I
  rw[D9]at I
  have E4:Ext σ B9:=let⟨_,_,_,_,_,_,_,_,_,_,L⟩:=I;L.ext
  have V4:∀{cI:PH} {L R:List (Addr×PO)},Led σ cI L R->M9 B9 (.ref ru) cI:=λ h=>(h.ext _ _ r2).trans (E4 _ _ r2).symm
  have cb:bs.countP (!·)<=G.names.length:=A9 List.countP_le_length (X0 hz)
  refine f_1 (v:=.ref ru) (F:=λ a=>F a v7 v8 .M7 .M7 .M7) (λ pre _ B9=>J G.rules.length (4*G.rules.length) (bs.countP (!·)) B9) rfl (D8 rfl (U8 E4 r1)) (Tq E4) I ?_ ?_
  ·intro pre i post v6 S7 R vU hQ;clear E4 L1 L2 L4 P hG hk hl Tq r4 wn wr zr W9;obtain⟨fd,lk,f,qu,hf,yE,hu,hb,hq,hm,L⟩:=hQ;intro hR
   have hZ:=P9 vU;delta hZ hp hi
   refine A0 (r5 i hi) λ r hZ=>?_;delta hZ hZ LF ir
   have hs:=w.left r LF
   have Dg:=W5 (l:=fd) (i:=r.left) false (hf.symm▸hs)
   refine dA (t:=decide (lk.getD i 0=0)&&!fd.getD r.left false) (jQ (N3 (I8 rfl (D8 rfl ((ir.ext L.ext).number)) (W8 0 (L.get 1 rfl) (yE.symm▸hi))) rfl rfl) (ML (AD (I8 rfl (D8 rfl ((ir.ext L.ext).left)) (I0 (L.get 0 rfl) (V5 Dg)))))) (λ hc=>?_) λ _=>O7 (hR .next _ _ trivial (V4 L) (.mk fd lk f qu hf yE hu hb hq hm L))
   rw[Sp hc]at Dg
   have cp:=countP_set Dg
   exact mX 0 L rfl (x:=.bool true) rfl rfl (D8 rfl ((ir.ext L.ext).left)) (Cr hf hs) λ cI _ L5=>N4 (aH 3 (x:=C0 r.left) L5 rfl rfl (D8 rfl ((ir.ext L5.ext).left)) (GW (A9 (aA ..) (X0 hm)) (A9 cb zn)) λ eM _ L6=>O7 (hR .next _ _ trivial (V4 L6) (.mk (fd.set r.left true) lk f (qu++[r.left]) ((P0 ..).trans hf) yE hu hb (T8 hq hs) (by rw[B0,Y0];lia)
    (US (C:=λ z=>Led σ eM [(c2,.list (List.map _ (fd.set r.left true))),_,_,(c5,.list z)] _) r.left (VW (C:=λ z=>Led σ eM [(c2,.list z),_,_,_] _) r.left true L6)))))
  ·intro v6 S7 hQ;clear E4 L1 L2 L4 P hG hk hl Tq r4 V4 wn zr W9;obtain⟨fd,lk,f,qu,hf,yE,hu,hb,hq,hm,L⟩:=hQ
   generalize bs.countP (!·)=M at hm cb
   refine P3 rfl (PM (I:=λ k ρ B9=>∃(t:Nat) (v10 v11:PV),ρ=F v6 v7 v8 (C0 t) v10 v11∧k=M - t∧j8 G σ c2 c3 c4 c5 l f M B9 t) M ⟨0,_,_,rfl,rfl,.mk fd lk qu hf yE hq (K3 _) hm L⟩ ?_)
   clear hf yE hq hm L
   intro k ρ aL R hQ;intros hQ t hZ;intros hZ v10 Q0;intros Q0 v11 P4;clear I V4 S7 bM;obtain⟨rfl,rfl,fd,lk,qu,hf,yE,hq,hz,hm,L⟩:=P4;intro hR
   refine uT (N3 (b:=decide ((t:Int)<(qu.length:Int))) rfl (V8 rfl (len_list (L.get 3 rfl) (A8 ..))) rfl) ?_
   by_cases c:t<qu.length
   ·rw[H3 (T7.mpr c)]
    have sz:=hq _ (sK c)
    have hs:=C4 c
    generalize qu[t]=s at hs sz
    have ha:=row s sz
    have Xf:=hb s
    have ea:=L.HF (aD ha)
    refine f_2 (l:=f s) (f:=C0) (v:=.ref (l.getD s 0)) (F:=λ a b=>F v6 v7 v8 (C0 t) a b) (λ _ _ _ B9=>j8 G σ c2 c3 c4 c5 l f M B9 (t+1)) rfl (I8 rfl (I8 rfl rfl (I0 (L.get 3 rfl) (V5 hs))) (I0 (L.get 2 rfl) (V5 ha))) (V6 ea (GW Xf (by lia))) (.mk fd lk qu hf yE hq c hm L) ?_ ?_
    ·clear L hf yE hq hz hm hs c
     intro pre x post v10 v11 B9 R2 fN hQ;clear hb Xf row sz;obtain⟨fd,lk,qu,hf,yE,hq,hz,hm,L⟩:=hQ;intro bS
     have Hv:∀{cI:PH} {L5:List (Addr×PO)},Led σ cI L5 (mB l λ s=>(f s).map C0)->M9 aL (.ref (l.getD s 0)) cI:=λ h=>(h.HF (aD ha)).trans ea.symm
     have hx:x<G.rules.length:=hu s x (P5 fN).2
     refine A0 (r5 x hx) λ r hZ=>?_;delta hZ hZ LF ir
     have BK:=w.left r LF
     have rg:(refs ra)[x]? =some (.ref (ra.getD x 0)):=V5 (W5 0 (r3.symm▸hx))
     refine mX 1 L rfl (x:=.int (lk.getD x 0 - 1)) (jK (I8 rfl rfl (W8 0 (L.get 1 rfl) (yE.symm▸hx))) rfl rfl) rfl rfl (Cr yE hx) λ Y9 _ L3=>P3 (D8 (I8 (D8 rfl (U8 L3.ext r1)) rfl (I0 (L3.ext _ _ r2) rg)) ((ir.ext L3.ext).left)) ?_
     replace L3:=VW (C:=λ z=>Led σ Y9 [_,(c3,.list z),_,_] _) x (lk.getD x 0 - 1) L3
     have l2:=(P0 (as:=lk) (i:=x) (a:=lk.getD x 0 - 1)).trans yE
     generalize lk.set x (lk.getD x 0 - 1)=Wi at L3 l2
     have Dg:=W5 (l:=fd) (i:=r.left) false (hf.symm▸BK)
     refine dA (t:=decide (Wi.getD x 0=0)&&!fd.getD r.left false) (jQ (N3 (I8 rfl rfl (W8 0 (L3.get 1 rfl) (l2.symm▸hx))) rfl rfl) (ML (AD (I8 rfl rfl (I0 (L3.get 0 rfl) (V5 Dg)))))) (λ hc=>?_) λ _=>O7 (bS .next _ _ _ trivial (Hv L3) (.mk fd Wi qu hf l2 hq hz hm L3))
     rw[Sp hc]at Dg
     have cp:=countP_set Dg
     exact mX 0 L3 rfl (x:=.bool true) rfl rfl rfl (Cr hf BK) λ cI _ L5=>N4 (aH 3 (x:=C0 r.left) L5 rfl rfl rfl (GW (A9 (aA ..) (X0 hm)) (A9 cb zn)) λ eM _ L6=>O7 (bS .next _ _ _ trivial (Hv L6) (.mk (fd.set r.left true) Wi (qu++[r.left]) ((P0 ..).trans hf) l2 (T8 hq BK) (A9 hz (by rw[B0];exact J6 ..)) (by rw[B0,Y0];lia)
      (US (C:=λ z=>Led σ eM [(c2,.list (List.map _ (fd.set r.left true))),_,_,(c5,.list z)] _) r.left (VW (C:=λ z=>Led σ eM [(c2,.list z),_,_,_] _) r.left true L6)))))
    ·intro v10 v11 B9 J'
     have Dd:t<M:=by clear L3 cb ea ha hb Xf yE hm hq hs hu hz r1 r2 r3 r5 ra row ru sz v10 v11 w zn Y9;cases J';lia
     exact P3 (x:=C0 (t+1)) rfl (s_end (hR .next _ _ (M - (t+1)) trivial (Nat.sub_lt_sub_left Dd (K5 t)) ⟨t+1,_,_,rfl,rfl,J'⟩))
   ·rw[J8 (λ h=>c (T7.mp h))]
    exact X8 rfl (q c2 aL fd L.ext (L.new _ (.head _)) hf (L.get 0 rfl))
end
def cU(l:List Nat)(m o:Nat):List Nat:=if l.getD o 0/2^m%2=1 then l.set o (l.getD o 0|||l.getD m 0)else l
def Td(l:List Nat):List Nat:=(List.range l.length).foldl (λ l m=>(List.range l.length).foldl (λ l o=>cU l m o) l) l
theorem zK(l:List Nat)(m o:Nat):(cU l m o).length=l.length:=by unfold cU;split<;>simp
theorem dT(m:Nat):∀(os:List Nat) (l:List Nat),(os.foldl (λ l o=>cU l m o) l).length=l.length
 |[],_=>rfl
 |o::os,l=>by rw[J0,dT m os,zK]
theorem getD_at{l:List Nat}{i:Nat}(h:i<l.length):l[i]? =some (l.getD i 0):=by rw[C2,C4 h];rfl
theorem Ad(x m:Nat):Builtin.bitAnd (Int.fdiv (x:Int) (2^(m:Int).toNat)) 1=((x/2^m%2:Nat):Int):=by
 rw[show((2:Int)^(m:Int).toNat)=((2^m:Nat):Int)from by rw[bA];simp,JX,show(1:Int)=((1:Nat):Int)from rfl,rW,Nat.and_one_is_mod]
abbrev qJ(l:List Nat)(m:Nat):List Nat:=(List.range l.length).foldl (λ l o=>cU l m o) l
theorem lR:∀(ms:List Nat) (l:List Nat),(ms.foldl qJ l).length=l.length
 |[],_=>rfl
 |m::ms,l=>by rw[J0,lR ms];exact dT ..
theorem mz{α β:Type}{l:List α}{f:α->β}{k:Nat}(h:l.length<=k)(hk:Nat.ble k 16777216=true):(l.map f).length<=2^24:=by
 rw[A8];exact A9 h (C3 hk)
theorem qT{α:Type}{σ:PH}{a:Addr}{l:List α}{f:α->PV}{k:Nat}(h:σ a=some (.list (l.map f)))(hz:l.length<=k)(hk:Nat.ble k 16777216=true):mF σ (.ref a) (l.map f):=V6 h (mz hz hk)
section
variable{W:Wd}(P:dR W){n:Nat}{σ:PH}{Q:PV->PH->Prop}
include P
theorem HM{a:Addr}{l:List Nat}(h:σ a=some (.list (l.map C0)))(hz:l.length<=20)(q:∀c B9,Ext σ B9->B9 c=some (.list ((Td l).map C0))->Q (.ref c) B9):J9 W (n+1) (.ref 223) [.ref a] σ Q:=by
 refine P.fn tH 15 rfl (ρ:=[.ref a,.M7,.M7,.M7]) rfl (K1 (H7 rfl (HR (Led.start σ) h (mz hz rfl) λ c aL _ L1=>?_)))
 have Yy:∀{k:Nat},k=l.length->k<=2^24:=λ h=>h▸A9 hz (by decide)
 refine uY (H7 (xs:=[C0 l.length]) (p1 (V8 rfl (len_list (L1.get 0 rfl) (A8 ..)))) (aQ ⟨_,fJ (k:=l.length) (Yy rfl),eE (λ pre ρ B9=>∃v2 v3:PV,ρ=[.ref a,.ref c,v2,v3]∧Led σ B9 [(c,.list ((pre.foldl qJ l).map C0))] []) ⟨_,_,rfl,L1⟩ ?_ ?_⟩))
 ·intro pre m post ρ B9 R vU hQ;intros hQ v2 hZ;intros hZ v3 Q0;obtain rfl:=Q0.1;delta Q0 Q0 L;intro hR
  have hm:=(P9 vU).2
  rw[cH]at hR
  have hl:=lR pre l
  generalize pre.foldl qJ l=k at L hR hl
  refine uY (H7 (xs:=[C0 k.length]) (p1 (V8 rfl (len_list (L.get 0 rfl) (A8 ..)))) (aQ ⟨_,fJ (k:=k.length) (Yy hl),eE (λ pre ρ B9=>∃v3:PV,ρ=[.ref a,.ref c,C0 m,v3]∧Led σ B9 [(c,.list ((pre.foldl (λ l o=>cU l m o) k).map C0))] []) ⟨_,rfl,L⟩ ?_ ?_⟩))
  ·intro p2 o iI ρ S7 R2 Nr hQ;intros hQ v3 hZ;obtain rfl:=hZ.1;delta hZ hZ L;intro bS
   have ho:=(P9 Nr).2
   rw[cH]at bS
   have fN:=dT m p2 k
   generalize p2.foldl (λ l o=>cU l m o) k=j at L bS fN
   have LE:o<j.length:=fN▸ho
   have e1:=getD_at (l:=j) (i:=o) LE
   have e2:=getD_at (l:=j) (i:=m) (fN▸hl▸hm)
   have s1:pv S7 [.ref a,.ref c,C0 m,C0 o] (.sub (.loc 1) (.loc 3))=some (C0 (j.getD o 0)):=I8 rfl rfl (I0 (L.get 0 rfl) (V5 e1))
   refine Cc (iD (O6 (rE s1 rfl ⟨G6 m,P2 rfl (P2 rfl ⟨decide (j.getD o 0/2^m%2=1),?_,?_⟩)⟩)))
   ·rw[Ad]
    show some (decide (((j.getD o 0/2^m%2:Nat):Int)=1))=_
    congr 1;rw[eO];exact Int.natCast_inj (n:=1)
   ·unfold cU at bS
    by_cases c1:j.getD o 0/2^m%2=1
    ·rw[F7 c1]at bS
     rw[H3 c1]
     refine mX 0 L rfl (x:=C0 (j.getD o 0|||j.getD m 0)) ?_ rfl rfl (by rw[A8];exact LE) λ Y9 _ L3=>s_end (s_end (bS _ _ _ trivial trivial ⟨_,rfl,by rw[iB];exact L3⟩))
     exact jK s1 (I8 rfl rfl (I0 (L.get 0 rfl) (V5 e2))) (C7 (λ z=>some (PV.int z)) (wG _ _))
    ·rw[G0 c1]at bS
     rw[J8 c1]
     exact s_end (s_end (bS _ _ _ trivial trivial ⟨_,rfl,L⟩))
  ·intro ρ S7 hQ;intros hQ v3 hZ;obtain rfl:=hZ.1;delta hZ hZ L
   exact s_end (hR _ _ _ trivial trivial ⟨_,_,rfl,L⟩)
 ·intro ρ B9 hQ;intros hQ v2 hZ;intros hZ v3 Q0;obtain rfl:=Q0.1;delta Q0 Q0 L
  exact X8 rfl (q c B9 L.ext (L.get 0 rfl))
end
def gG(l:List Nat)(r:Rl):List Nat:=match r.right with
 |[]=>l
 |s::_=>l.set r.left (l.getD r.left 0|||2^s)
def Gr.zV(G:Gr):List Nat:=G.rules.foldl gG (List.replicate G.names.length 0)
def Gr.jX(G:Gr):List Nat:=Td G.zV
theorem rS:∀(rs:List Rl) (l:List Nat),(rs.foldl gG l).length=l.length
 |[],_=>rfl
 |r::rs,l=>by rw[J0,rS rs];unfold gG;split<;>simp
theorem Gr.BP(G:Gr):G.jX.length=G.names.length:=by
 unfold Gr.jX Td
 rw[show ∀l:List Nat,((List.range l.length).foldl (λ l m=>(List.range l.length).foldl (λ l o=>cU l m o) l) l).length=l.length from λ l=>lR _ l]
 exact(rS _ _).trans K8
def wK(σ:PH)(c g:Addr)(G:Gr):Prop:=∃a,aT σ c 296 [("grammar",.ref g),("firsts",.ref a)]∧σ a=some (.list (G.jX.map C0))
section
variable{σ B9:PH}{c g:Addr}{G:Gr}(h:wK σ c g G)
include h
theorem wK.gr:fld σ (.ref c) "grammar"=some (.ref g):=let⟨_,o,_⟩:=h;o.fld _
theorem wK.fi:∃a,fld σ (.ref c) "firsts"=some (.ref a)∧σ a=some (.list (G.jX.map C0)):=let⟨a,o,x⟩:=h;⟨a,o.fld _,x⟩
theorem wK.H2:∀f m,(f,m)∈[("wanted",279),("added",286),("close",293)]->dZ tb σ (.ref c) f=some (.ref m):=λ f m hf=>by
 intros h _ hZ;delta hZ o
 simp only[F8,Prod.mk.injEq,eQ,or_false]at hf
 rcases hf with⟨rfl,rfl⟩|⟨rfl,rfl⟩|⟨rfl,rfl⟩<;>exact o.H2 _ rfl rfl
theorem wK.ext(E:Ext σ B9):wK B9 c g G:=let⟨a,o,x⟩:=h;⟨a,o.ext E,E _ _ x⟩
end
section
variable{W:Wd}{n:Nat}{σ:PH}{ρ:List PV}{e e' KD:PE}{r:V0}{K:Fl->List PV->PH->Prop}
theorem Kn{C8:PH}{f:String}{C a dx:Addr}{fs:List (String×PV)}{L R:List (Addr×PO)}{x:PV}(h:Led C8 σ ((a,.inst C dx)::(dx,.attrs C fs)::L) R)(hf:tb.fld C f=true)(hz:fs.length<=100)
  (k:∀B9,(∀b o,σ b=some o->(∀D gs,o≠.attrs D gs)->B9 b=some o)->Led C8 B9 ((a,.inst C dx)::(dx,.attrs C (lU f x fs))::L) R->S8 W tb n r ρ B9 K):∃C dx fs,σ a=some (.inst C dx)∧σ dx=some (.attrs C fs)∧tb.fld C f=true∧fs.length<=100∧S8 W tb n r ρ (σ.set dx (.attrs C (lU f x fs))) K:=
 ⟨C,dx,fs,h.get 0 rfl,h.get 1 rfl,hf,hz,k _ (λ b o e no=>by
  rw[PH.U0]
  ·exact e
  ·clear k;rintro rfl;rw[h.get 1 rfl]at e;cases e;exact no _ _ rfl) (h.set 1 rfl _)⟩
theorem zT(h:(wp W tb n e).v ρ σ λ x B4=>(wp W tb n e').v ρ B4 λ ov H6=>(wp W tb n KD).v ρ H6 λ iv R9=>kO R9 iv x (λ mW=>S8 W tb n r ρ mW K) ov):S8 W tb n (.cons (.aN e' KD e) r) ρ σ K:=h
theorem VI{C8:PH}{L R:List (Addr×PO)}(i:Nat){a:Addr}{xs:List PV}{j:Nat}{x:PV}{C:PH->Prop}(hL:Led C8 σ L R)(ha:L[i]? =some (a,.list xs))(hj:j<xs.length)(k:∀B9,SH σ B9->Led C8 B9 (L.set i (a,.list (xs.set j x))) R->C B9):kO σ (C0 j) x C (.ref a):=by
 show cG _ _ (σ a)
 rw[hL.get i ha]
 exact⟨j,rfl,hj,k _ (.list (hL.get i ha) _) (hL.set i ha _)⟩
end
theorem sY(s:Nat)(h:s<=64){σ:PH}{Q:PV->PH->Prop}(q:Q (C0 (2^s)) σ):mO .LShift σ Q (.int 1) (C0 s):=by
 refine⟨G6 s,by lia,⟨by decide,by decide⟩,?_⟩
 have:(1:Int)*2^(s:Int).toNat=((2^s:Nat):Int):=by rw[bA];simp
 rw[this];exact q
theorem uI{a b:Nat}{σ:PH}{Q:PV->PH->Prop}(q:Q (C0 (a|||b)) σ):mO .BitOr σ Q (C0 a) (C0 b):=by
 show Q (.int (Builtin.bitOr a b)) σ
 rw[wG];exact q
section
variable{W:Wd}(P:dR W){n:Nat}{σ:PH}{g:Addr}{G:Gr}(hG:qA σ g G)(w:G.Wf){Q:PV->PH->Prop}
include P hG w
theorem ZZ(q:∀c B9,Ext σ B9->wK B9 c g G->Q (.ref c) B9):J9 W (n+3) (.ref 296) [.ref g] σ Q:=by
 have wn:=w.names
 refine ee2.e (zU hG w) λ ru ra hZ=>?_;delta hZ r1 r2 r3 r4 r5
 refine vR P 3 18 1 (r:=qR) rfl rfl (O5:=[.ref g,.M7,.M7]) (λ _=>rfl) (λ _=>rfl) λ x dx aL L1=>?_
 refine K1 (O6 (K7 L1 rfl λ c1 W9 L2=>J1 rfl ((hG.ext L2.ext).H2 "symbol_count" 122 (by simp)) rfl (pF (n:=n) P (hG.ext L2.ext) (CF L2 (L2.get 2 rfl) (A9 wn (by decide)) λ c2 Y9 L3=>?_))))
 have Ir:Led σ Y9 [(x,.inst 296 dx),(dx,.attrs 296 [("grammar",.ref g)]),(c2,.list ((List.replicate G.names.length 0).map C0))] []:=L3.sub (by rw[nW];exact .cons_cons _ (.cons_cons _ (.cons _ (.refl _))))
 show S8 W tb (n+1) _ [.ref x,.ref g,.ref c2,.M7] Y9 _
 clear L3 L2 L1
 refine oE (v:=.ref ru) (λ pre ρ B9=>∃v3:PV,ρ=[.ref x,.ref g,.ref c2,v3]∧Led σ B9 [(x,.inst 296 dx),(dx,.attrs 296 [("grammar",.ref g)]),(c2,.list (((G.rules.take pre.length).foldl gG (List.replicate G.names.length 0)).map C0))] []) (D8 rfl (U8 Ir.ext r1)) (V6 (by rw[Ir.ext _ _ r2,fH,r3]) (by have:=w.rules;simp;lia)) ⟨_,rfl,Ir⟩ ?_ ?_
 ·intro pre i post ρ B9 R vU hQ;intros hQ v3 hZ;obtain rfl:=hZ.1;delta hZ hZ L;intro hR
  have hZ:=P9 vU;delta hZ hp hi
  have TJ:pre.length=i:=by rw[hp];simp
  refine A0 (r5 i hi) λ r hZ=>?_;delta hZ hg hm ir
  have st:∀{cI:PH} {L5 R5:List (Addr×PO)},Led σ cI L5 R5->M9 Y9 (.ref ru) cI:=λ h=>(h.ext _ _ r2).trans (Ir.ext _ _ r2).symm
  have hl:=rS (G.rules.take i) (List.replicate G.names.length 0)
  rw[K8]at hl
  rw[B0,Y0,TJ,List.take_add_one,hg]at hR
  rw[TJ]at L
  simp only[Option.toList_some,cH]at hR
  generalize (G.rules.take i).foldl gG (List.replicate G.names.length 0)=l at L hR hl
  have rr:=(ir.ext L.ext).right
  have ht:=N3 (σ:=B9) (ρ:=[.ref x,.ref g,.ref c2,.ref (ra.getD i 0)]) (op:=.Gt) (e:=.call 1 (.builtin "len") (.cons (.attr (.loc 3) "right") .nil)) (e':=.int 0) (V8 (D8 rfl rr) (pV (A8 ..))) rfl rfl
  unfold gG at hR
  cases Tx:r.right with
  |nil=>
   rw[Tx]at ht hR
   exact oC ht (s_end (hR _ _ _ trivial (st L) ⟨_,rfl,L⟩))
  |cons s q'=>
   rw[Tx]at ht hR rr
   have hs:=w.sym r hm s (by rw[Tx];exact .head _)
   have BK:=w.left r hm
   have e1:=getD_at (l:=l) (i:=r.left) (hl▸BK)
   have rl:=(ir.ext L.ext).left
   refine qM (ht.trans (C7 some (H3 (Int.natCast_pos.mpr (eP _))))) (zT (O6 (P2 (I8 rfl (D8 rfl rl) (I0 (L.get 2 rfl) (V5 e1))) (rE rfl (I8 (D8 rfl rr) rfl (fQ (k:=0) rfl)) (sY s (M8 (D1 hs (A9 wn (by decide)))) (uI (P2 rfl (P2 (D8 rfl rl) (VI 2 L rfl (by rw[A8,hl];exact BK) λ bM _ L4=>s_end (s_end (hR _ _ _ trivial (st L4) ⟨_,rfl,by rw[iB];exact L4⟩)))))))))))
 ·intro ρ B9 hQ;intros hQ v3 hZ;obtain rfl:=hZ.1;delta hZ hZ L
  rw[D9,cB]at L
  refine Q9 rfl (H7 rfl (HM P (l:=G.zV) (L.get 2 rfl) (by rw[show G.zV.length=G.names.length from(rS _ _).trans K8];exact A9 wn (by decide)) λ c3 cI E5 h5=>Kn (L.grow E5) rfl (C3 rfl) λ eM D6 L6=>s_end ⟨rfl,q x eM L6.ext ?_⟩))
  exact⟨c3,L6.obj 0 1 rfl rfl,D6 _ _ h5 λ _ _ e=>by cases e⟩
end
theorem Led.adopt{C8 σ B9:PH}{L R:List (Addr×PO)}(h:Led C8 σ L R){c:Addr}{o:PO}(E:Ext σ B9)(hc:σ c=none)(h2:B9 c=some o):Led C8 B9 (L++[(c,o)]) R:=by
 have h3:Led C8 (σ.set c o) (L++[(c,o)]) R:=h.alloc hc o
 refine⟨h3.nd,h3.new,λ p hp=>?_,h.ext.trans E⟩
 by_cases e:p.1=c
 ·have:=h3.at_ p hp
  rw[e,PH.J7]at this
  rw[e,<-this];exact h2
 ·have:=h3.at_ p hp
  rw[PH.U0 _ _ e]at this
  exact E _ _ this
def Gr.S6(G:Gr)(m:Nat):Nat:=G.aS.getD m 0
def Gr.PT(G:Gr)(m:Nat):Rl:=G.rules.getD (G.S6 m) ⟨0,[]⟩
def Gr.rU(G:Gr)(m:Nat):Nat:=m - G.off (G.S6 m)
def Gr.cM(G:Gr)(m:Nat):Option Nat:=(G.PT m).right[G.rU m]?
theorem Gr.It.I{G:Gr}{m i d:Nat}{r:Rl}(h:G.It m i r d):G.S6 m=i∧G.PT m=r∧G.rU m=d:=by
 have e1:G.S6 m=i:=by unfold Gr.S6;rw[C2,h.own];rfl
 refine⟨e1,?_,?_⟩
 ·unfold Gr.PT;rw[e1,C2,h.rule];rfl
 ·unfold Gr.rU;rw[e1,h.at_,W0]
theorem Gr.it{G:Gr}{m:Nat}(h:m<G.aS.length):G.It m (G.S6 m) (G.PT m) (G.rU m):=by
 refine ee3.e (G.Qo h) λ i r d x=>?_
 have hZ:=x.I;delta hZ a b c
 rw[a,b,c];exact x
def Gr.wN(G:Gr)(mask m:Nat):Nat:=match G.cM m with
 |some s=>mask|||2^s|||G.jX.getD s 0
 |none=>mask
def Gr.wanted(G:Gr)(k:List Nat):Nat:=k.foldl G.wN 0
def Gr.HW(G:Gr)(k:List Nat):List Nat:=(((X7 (G.wanted k) G.names.length).flatMap G.of).map G.off).filter λ i=>!decide (i∈k)
def Gr.close(G:Gr)(k:List Nat):List Nat:=dU k++dU (G.HW k)
theorem IJ{N m:Nat}:∀{os l:List Nat},(∀x∈l,x<2^N)->∀x∈os.foldl (λ l o=>cU l m o) l,x<2^N
 |[],l,h=>h
 |o::os,l,h=>by
  rw[J0]
  refine IJ λ x hx=>?_
  unfold cU at hx
  have gd:∀i,l.getD i 0<2^N:=λ i=>by
   rw[C2]
   cases e:l[i]? with
   |none=>exact Z8 N
   |some y=>exact h y (B5 e)
  split at hx
  ·rcases aU hx with hx|rfl
   ·exact h x hx
   ·exact Z5 (gd _) (gd _)
  ·exact h x hx
theorem DQ{N:Nat}:∀{ms l:List Nat},(∀x∈l,x<2^N)->∀x∈ms.foldl qJ l,x<2^N
 |[],l,h=>h
 |m::ms,l,h=>by rw[J0];exact DQ (IJ h)
set_option tactic.hygienic true in
theorem MD{G:Gr}(w:G.Wf):∀x∈G.zV,x<2^G.names.length:=by
 have gen:∀(rs:List Rl) (l:List Nat),(∀r∈rs,r∈G.rules)->(∀x∈l,x<2^G.names.length)->∀x∈rs.foldl gG l,x<2^G.names.length:=by
  intro rs
  induction rs with
  |nil=>intro l _ h;exact h
  |cons r rs ih=>
   intro l hr h
   rw[J0]
   refine ih _ (λ y hy=>hr y (.tail _ hy)) λ x hx=>?_
   unfold gG at hx
   split at hx
   ·exact h x hx
   ·rename_i s q e
    rcases aU hx with hx|rfl
    ·exact h x hx
    ·refine Z5 ?_ (kI (by decide) (w.sym r (hr r (.head _)) s (by rw[e];exact .head _)))
     rw[C2]
     cases e:l[r.left]? with
     |none=>exact Z8 _
     |some y=>exact h y (B5 e)
 exact gen _ _ (λ _ h=>h) λ x hx=>by rw[(List.mem_replicate.mp hx).2];exact Z8 _
theorem HI{G:Gr}(w:G.Wf)(s:Nat):G.jX.getD s 0<2^G.names.length:=by
 rw[C2]
 cases e:G.jX[s]? with
 |none=>exact Z8 _
 |some y=>exact DQ (MD w) y (B5 e)
theorem HV{G:Gr}(w:G.Wf){m s:Nat}(hm:m<G.aS.length)(h:G.cM m=some s):s<G.names.length:=w.sym _ (B5 (Gr.it hm).rule) s (B5 h)
set_option tactic.hygienic true in
theorem sP{G:Gr}(w:G.Wf):∀{k:List Nat} {z:Nat},(∀m∈k,m<G.aS.length)->z<2^G.names.length->k.foldl G.wN z<2^G.names.length
 |[],z,_,h=>h
 |m::k,z,hk,h=>by
  rw[J0]
  refine sP w (λ y hy=>hk y (.tail _ hy)) ?_
  unfold Gr.wN
  split
  ·rename_i s e
   exact Z5 (Z5 h (kI (by decide) (HV w (hk m (.head _)) e))) (HI w s)
  ·exact h
section
variable{W:Wd}(P:dR W){n:Nat}{σ:PH}{g c:Addr}{G:Gr}(hG:qA σ g G)(w:G.Wf)(hC:wK σ c g G){Q:PV->PH->Prop}
include P hG w hC
theorem ZO{k:List Nat}(hk:∀m∈k,m<G.aS.length)(hz:k.length<=64)(q:Q (C0 (G.wanted k)) σ):J9 W (n+2) (.ref 279) [.ref c,.tup (k.map C0)] σ Q:=by
 refine A0 (hC.fi) λ fa hZ=>?_;delta hZ f1 f2
 refine P.fn nJ 19 rfl (ρ:=[.ref c,.tup (k.map C0),.M7,.M7,.M7]) rfl (P3 rfl ?_)
 refine oE (l:=k) (f:=C0) (v:=.tup (k.map C0)) (λ pre ρ B9=>B9=σ∧∃v3 v4:PV,ρ=[.ref c,.tup (k.map C0),C0 (pre.foldl G.wN 0),v3,v4]) rfl (rO (mz hz rfl)) ⟨rfl,_,_,rfl⟩ ?_ ?_
 ·intro pre m post ρ B9 R hl hQ;clear q;obtain rfl:=hQ.1;refine A0 hQ.2 λ v3 Q0=>?_;intros Q0 v4 P4;obtain rfl:=P4;try clear hQ;intro hR
  have hm:=hk m (by rw[hl];simp)
  have it:=Gr.it hm
  rw[cH]at hR
  generalize pre.foldl G.wN 0=z at hR
  refine K1 (J1 (D8 rfl hC.gr) (hG.H2 "after" 178 (by simp)) rfl (zD (n:=n) P hG it ?_))
  have e:OH (G.PT m) (G.rU m)=match G.cM m with|some s=>(s:Int)|none=> -1:=rfl
  rw[e]
  unfold Gr.wN at hR
  cases ha:G.cM m with
  |none=>
   rw[ha]at hR
   exact oC rfl (s_end (hR _ _ _ trivial trivial ⟨rfl,_,_,rfl⟩))
  |some s=>
   rw[ha]at hR
   have hs:=HV w hm ha
   have e1:=getD_at (l:=G.jX) (i:=s) (G.BP▸hs)
   refine qM ((N3 rfl rfl rfl).trans (C7 some (H3 (G6 s)))) (K1 (O6 (O6 (P2 rfl (rE rfl rfl (sY s (M8 (D1 hs (A9 w.names (by decide)))) (uI (P2 (I8 (D8 rfl f1) rfl (I0 f2 (V5 e1))) (uI (s_end (s_end (hR _ _ _ trivial trivial ⟨rfl,_,_,rfl⟩))))))))))))
 ·intro ρ B9 hQ;clear P f1 f2 fa hC hG hk hz w;obtain rfl:=hQ.1;refine A0 hQ.2 λ v3 Q0=>?_;intros Q0 v4 P4;clear hQ;obtain rfl:=P4;try clear hQ
  exact X8 rfl q
end
theorem wF{m N x:Nat}(h:x∈X7 m N):x<N∧m/2^x%2=1:=by
 have:=J5.mp h
 exact⟨N1.mp this.1,eq_of_beq this.2⟩
theorem vN{G:Gr}{s i:Nat}(h:i∈G.of s):i<G.rules.length∧∃r,G.rules[i]? =some r∧r.left=s:=by
 have:=J5.mp h
 refine⟨N1.mp this.1,?_⟩
 have e:=eq_of_beq this.2
 cases h2:G.rules[i]? with
 |none=>rw[h2]at e;cases e
 |some r=>rw[h2]at e;exact⟨r,rfl,G8 e⟩
theorem BO{α β:Type}{f:α->List β}{b:Nat}:∀{l:List α},(∀x∈l,(f x).length<=b)->(l.flatMap f).length<=b*l.length
 |[],_=>K3 _
 |x::l,h=>by
  rw[Z7,B0,H5,Nat.mul_succ,aF]
  exact S0 (BO λ y hy=>h y (.tail _ hy)) (h x (.head _))
theorem AW{G:Gr}(w:G.Wf)(s:Nat):(G.of s).length<=6:=A9 (H4 ..) (by rw[D9];exact w.rules)
theorem KO{G:Gr}(w:G.Wf)(k:List Nat):(G.HW k).length<64:=by
 have h1:(X7 (G.wanted k) G.names.length).length<=10:=A9 (H4 ..) (by rw[D9];exact w.names)
 have h2:=BO (f:=G.of) (l:=X7 (G.wanted k) G.names.length) λ x _=>AW w x
 have h3:(G.HW k).length<=((X7 (G.wanted k) G.names.length).flatMap G.of).length:=A9 (H4 ..) (by rw[A8];exact D7 _)
 lia
theorem JO{x:Nat}{l:List Nat}:DD (C0 x) (l.map C0)=some (decide (x∈l)):=by
 unfold DD
 rw[F7 ⟨rfl,by rw[cS];exact G3.mpr λ _ _=>rfl⟩,nP]
 congr 1
 rw[fZ,jP,P8]
 constructor
 ·intro hQ;intros hQ y hZ;delta hZ hy e;rw[<-rA (D0 (show decide ((y:Int)=x)=true from e))];exact hy
 ·intro h;exact⟨x,h,by show decide ((x:Int)=x)=true;simp⟩
theorem oU{σ:PH}{ρ:List PV}{e e':PE}{x:Nat}{l:List Nat}{v:PV}(h:pv σ ρ e=some (C0 x))(h':pv σ ρ e'=some v)(hv:QP σ (C0 x) v=some (decide (x∈l))):pt σ ρ (.cmp .NotIn e e')=some (!decide (x∈l)):=
 N3 h h' (by show Option.map _ (QP σ (C0 x) v)=_;rw[hv];rfl)
theorem in_list{σ:PH}{a:Addr}{l:List Nat}{x:Nat}(h:σ a=some (.list (l.map C0))):QP σ (C0 x) (.ref a)=some (decide (x∈l)):=by rw[BJ h];exact JO
section
variable{W:Wd}(P:dR W){n:Nat}{σ:PH}{g c:Addr}{G:Gr}(hG:qA σ g G)(w:G.Wf)(hC:wK σ c g G){Q:PV->PH->Prop}
include P hG w hC
theorem Fy{k:List Nat}(hk:∀m∈k,m<G.aS.length)(hz:k.length<=64)(q:∀a B9,Ext σ B9->σ a=none->B9 a=some (.list ((dU (G.HW k)).map C0))->Q (.ref a) B9):J9 W (n+3) (.ref 286) [.ref c,.tup (k.map C0)] σ Q:=by
 have wn:=w.names
 have wr:=w.rules
 refine P.fn oQ 20 rfl (ρ:=[.ref c,.tup (k.map C0),.M7,.M7,.M7,.M7]) rfl (K1 (K7 (Led.start σ) rfl λ c2 aL L1=>?_))
 have TP:=hG.ext L1.ext
 refine uY (T5 (F9 (J1 rfl ((hC.ext L1.ext).H2 "wanted" 279 (by simp)) rfl (ZO (n:=n) P TP w (hC.ext L1.ext) hk hz (M0 (CB (n:=n+1) P (N:=G.names.length) (sP w hk (Z8 _)) (A9 wn (by decide)) λ c3 W9 E2 CT h3=>?_))))))
 have L2:=L1.adopt E2 CT h3
 refine⟨_,qT h3 (k:=10) (A9 (H4 ..) (by rw[D9];exact wn)) rfl,eE (λ pre ρ B9=>∃v3 v4 v5:PV,ρ=[.ref c,.tup (k.map C0),.ref c2,v3,v4,v5]∧Led σ B9 [(c2,.list ((((pre.flatMap G.of).map G.off).filter λ i=>!decide (i∈k)).map C0)),(c3,.list ((X7 (G.wanted k) G.names.length).map C0))] []) ⟨_,_,_,rfl,L2⟩ ?_ ?_⟩
 ·intro pre s post ρ B9 R hl hQ;intros hQ v3 hZ;intros hZ v4 Q0;intros Q0 v5 P4;obtain rfl:=P4.1;delta P4 P4 L;intro hR
  have hs:=(wF (show s∈X7 _ _ by rw[hl];simp)).1
  have pz:(pre.flatMap G.of).length<=60:=by
   have h1:(X7 (G.wanted k) G.names.length).length<=10:=A9 (H4 ..) (by rw[D9];exact wn)
   rw[hl,B0]at h1
   have:=BO (f:=G.of) (l:=pre) λ x _=>AW w x
   lia
  refine uY (J1 (D8 rfl (U8 L.ext hC.gr)) ((hG.ext L.ext).H2 "rules_of" 150 (by simp)) rfl (BZ (n:=n+1) P (hG.ext L.ext) hs (A9 wr (by decide)) λ c4 Y9 E3 Ug h4=>?_))
  have L3:=L.adopt E3 Ug h4
  refine⟨_,qT h4 (AW w s) rfl,eE (λ p2 ρ S7=>∃v4 v5:PV,ρ=[.ref c,.tup (k.map C0),.ref c2,C0 s,v4,v5]∧Led σ S7 [(c2,.list (((((pre.flatMap G.of)++p2).map G.off).filter λ i=>!decide (i∈k)).map C0)),(c3,.list ((X7 (G.wanted k) G.names.length).map C0)),(c4,.list ((G.of s).map C0))] []) ⟨_,_,rfl,by rw[C9];exact L3⟩ ?_ ?_⟩
  ·intro p2 i iI ρ S7 R2 fN hQ;intros hQ v4 hZ;intros hZ v5 Q0;obtain rfl:=Q0.1;delta Q0 Q0 M;intro bS
   have hi:=(vN (show i∈G.of s by rw[fN];simp)).1
   have Tl:p2.length<=6:=by have:=AW w s;rw[fN,B0]at this;lia
   rw[<-C6,C1,G7]at bS
   refine K1 (J1 (D8 rfl (U8 M.ext hC.gr)) ((hG.ext M.ext).H2 "item" 157 (by simp)) rfl (NX (n:=n+1) P (hG.ext M.ext) (d:=0) hi ?_))
   have ht:=oU (σ:=S7) (ρ:=[.ref c,.tup (k.map C0),.ref c2,C0 s,C0 i,C0 (G.off i+0)]) (e:=.loc 5) (e':=.loc 1) (x:=G.off i) (l:=k) rfl rfl JO
   have V4:∀{cI:PH} {X:PO},Led σ cI [(c2,X),(c3,.list ((X7 (G.wanted k) G.names.length).map C0)),(c4,.list ((G.of s).map C0))] []->M9 Y9 (.ref c4) cI:=λ h=>(h.get 2 rfl).trans h4.symm
   by_cases hx:G.off i∈k
   ·rw[H3 hx]at ht
    refine oC ht (s_end (bS _ _ _ trivial (V4 M) ⟨_,_,rfl,?_⟩))
    rw[show[i].map G.off=[G.off i]from rfl,W1,H3 hx]
    simpa using M
   ·rw[J8 hx]at ht
    refine qM ht (N4 (aH 0 (x:=C0 (G.off i)) M rfl rfl rfl ?_ λ cI _ M5=>s_end (s_end (bS _ _ _ trivial (V4 M5) ⟨_,_,rfl,?_⟩))))
    ·rw[A8]
     refine A9 (H4 ..) ?_
     rw[A8,B0]
     lia
    ·rw[show[i].map G.off=[G.off i]from rfl,W1,J8 hx,C1]
     exact M5
  ·intro ρ S7 hQ;intros hQ v4 hZ;intros hZ v5 Q0;obtain rfl:=Q0.1;delta Q0 Q0 M
   refine s_end (hR _ _ _ trivial ((M.get 1 rfl).trans h3.symm) ⟨_,_,_,rfl,?_⟩)
   rw[Q7,Q2]
   exact Led.drop (X:=[(c4,_)]) (L:=[(c2,_),(c3,_)]) M
 ·intro ρ B9 hQ;intros hQ v3 hZ;intros hZ v4 Q0;intros Q0 v5 P4;obtain rfl:=P4.1;delta P4 P4 L
  exact W3 (H7 rfl (dE (L.get 0 rfl) (KO w k) λ c5 EX=>q c5 _ (L.ext.trans (Ext.new EX _)) (L.ext.none EX) (PH.J7 ..)))
theorem Fv{k:List Nat}(hk:∀m∈k,m<G.aS.length)(hz:k.length<64)(q:∀a B9,Ext σ B9->σ a=none->B9 a=some (.list ((G.close k).map C0))->Q (.ref a) B9):J9 W (n+4) (.ref 293) [.ref c,.tup (k.map C0)] σ Q:=by
 refine P.fn oP 21 rfl (ρ:=[.ref c,.tup (k.map C0)]) rfl (W3 (O6 (H7 rfl (HQ hz λ c1 Nw=>?_))))
 have E1:=Ext.new Nw (.list ((dU k).map C0))
 refine J1 rfl ((hC.ext E1).H2 "added" 286 (by simp)) rfl (Fy (n:=n) P (hG.ext E1) w (hC.ext E1) hk (M8 hz) λ c2 W9 E2 _ h2=>⟨rfl,_,_,E2 _ _ (PH.J7 ..),h2,?_,λ c3 CT=>?_⟩)
 ·rw[A8,A8,(N8 _).length_eq,(N8 _).length_eq]
  have:=KO w k
  lia
 ·have E3:=(E1.trans E2).trans (Ext.new CT (.list ((dU k).map C0++(dU (G.HW k)).map C0)))
  exact q c3 _ E3 ((E1.trans E2).none CT) (by rw[PH.J7,<-C1];rfl)
end
theorem AC{k:PK}{x:PV}{es:List (PK×PV)}(h:es.lookup k=none):putK k x es=es++[(k,x)]:=by
 induction es with
 |nil=>rfl
 |cons p l ih=>
  obtain⟨j,y⟩:=p
  rw[I1]at h
  cases e:k==j with
  |true=>rw[e]at h;cases h
  |false=>
   rw[e]at h
   rw[lT]
   rw[G0 (λ q=>by clear ih h;subst q;simp at e),ih h];rfl
def yW(ks:List Nat)(v:Nat->PV):List (PK×PV):=ks.map λ(s:Nat)=>(PK.int (s:Int),v s)
theorem rN{ks:List Nat}{v:Nat->PV}{s:Nat}:(yW ks v).lookup (.int s)=if s∈ks then some (v s)else none:=by
 induction ks with
 |nil=>rfl
 |cons t ks ih=>
  unfold yW at ih ⊢
  rw[I6,I1,ih]
  by_cases e:s=t
  ·subst e;simp
  ·have:((PK.int s)==PK.int t)=false:=by simp;lia
   rw[this]
   simp[e]
theorem BH(ks:List Nat)(v:Nat->PV)(i:Int):U3 (.int i) (yW ks v)=true:=by simp[U3,yW,HB]
theorem Ku{σ:PH}{a:Addr}{ks:List Nat}{v:Nat->PV}{m s:Nat}(h:σ a=some (.dict (yW ks v) m)):QP σ (C0 s) (.ref a)=some (decide (s∈ks)):=by
 rw[uA h rfl (BH ..),rN]
 by_cases c:s∈ks<;>simp[c]
theorem GY{σ:PH}{a:Addr}{ks:List Nat}{v:Nat->PV}{m s:Nat}(h:σ a=some (.dict (yW ks v) m))(hs:s∈ks):gE σ (.ref a) (C0 s)=some (v s):=by
 rw[bE h rfl,rN,F7 hs]
theorem QK{ks:List Nat}{v:Nat->PV}{s:Nat}{x:PV}(hs:s∉ks):putK (.int s) x (yW ks v)=yW (ks++[s]) λ t=>if t=s then x else v t:=by
 rw[AC (by rw[rN,G0 hs])]
 unfold yW
 rw[C1]
 congr 1
 ·exact P1 λ t ht=>by
   have:t≠s:=λ e=>hs (e▸ht)
   simp[this]
 ·simp
theorem Sn{d:Nat}{σ:PH}{Q:PV->PH->Prop}(q:Q (C0 (d+1)) σ):mO .Add σ Q (C0 d) (.int 1):=q
section
variable{W:Wd}{n:Nat}{σ C8:PH}{L R:List (Addr×PO)}{C:PH->Prop}
theorem OW(i:Nat){a:Addr}{es:List (PK×PV)}{m:Nat}{x y:PV}{q:PK}(hL:Led C8 σ L R)(ha:L[i]? =some (a,.dict es m))(hk:keyOf y=some q)(hs:U3 q es=true)(hz:es.length<2^24)
  (k:∀m' B9,SH σ B9->Led C8 B9 (L.set i (a,.dict (putK q x es) m')) R->C B9):kO σ y x C (.ref a):=by
 show cG _ _ (σ a)
 rw[hL.get i ha]
 exact⟨q,hk,hs,hz,λ m'=>k m' _ (.dict (hL.get i ha) _) (hL.set i ha _)⟩
end
def Gr.gF(G:Gr)(ks:List Nat)(m:Nat):List Nat:=match G.cM m with
 |some s=>if s∈ks then ks else ks++[s]
 |none=>ks
def Gr.ks(G:Gr)(items:List Nat):List Nat:=items.foldl G.gF []
def Gr.eC(G:Gr)(items:List Nat)(s:Nat):List Nat:=(items.filter λ m=>G.cM m==some s).map (·+1)
def Gr.kb(G:Gr)(items:List Nat):List (Nat×List Nat):=(dU (G.ks items)).map λ s=>(s,dU (G.eC items s))
def Gr.eH(G:Gr)(items:List Nat):List Nat:=(items.filter λ m=>(G.cM m).isNone&&decide (G.S6 m≠0)).map G.S6
set_option tactic.hygienic true in
theorem lG{G:Gr}(w:G.Wf):∀{items ks:List Nat},(∀m∈items,m<G.aS.length)->(ks.Nodup∧∀s∈ks,s<G.names.length)->(items.foldl G.gF ks).Nodup∧∀s∈items.foldl G.gF ks,s<G.names.length
 |[],ks,_,h=>h
 |m::items,ks,hm,h=>by
  rw[J0]
  refine lG w (λ y hy=>hm y (.tail _ hy)) ?_
  unfold Gr.gF
  split
  ·rename_i s e
   split
   ·exact h
   ·rename_i c
    have hs:=HV w (hm m (.head _)) e
    refine⟨O8.mpr ⟨h.1,by simp,λ a ha b hb=>?_⟩,λ t ht=>?_⟩
    ·simp at hb;clear e hs;subst hb;rintro rfl;exact c ha
    ·clear e;rcases G9.mp ht with ht|ht
     ·exact h.2 t ht
     ·simp at ht;lia
  ·exact h
theorem Y3{l:List Nat}{N:Nat}(h:l.Nodup)(hb:∀x∈l,x<N):l.length<=N:=by
 have:=h.length_le_of_subset (l₂:=List.range N) λ x hx=>N1.mpr (hb x hx)
 rwa [D9]at this
theorem NF{G:Gr}(w:G.Wf){items:List Nat}(hm:∀m∈items,m<G.aS.length):(G.ks items).length<=10:=by
 have:=lG w hm ⟨.nil,λ _ h=>(nomatch h)⟩
 exact A9 (Y3 this.1 this.2) w.names
theorem NE{G:Gr}{m s:Nat}(h:G.cM m=some s):∀{items ks:List Nat},(m∈items∨s∈ks)->s∈items.foldl G.gF ks
 |[],ks,e=>e.elim (λ h=>(nomatch h)) id
 |x::items,ks,e=>by
  rw[J0]
  refine NE h ?_
  have keep:∀t,t∈ks->t∈G.gF ks x:=λ t ht=>by
   unfold Gr.gF
   split
   ·split
    ·exact ht
    ·exact H0 _ ht
   ·exact ht
  rcases e with e|e
  ·clear keep;cases e with
   |head=>
    refine .inr ?_
    unfold Gr.gF
    rw[h]
    dsimp only
    split
    ·assumption
    ·exact G4 _ (.head _)
   |tail _ e=>exact .inl e
  ·exact .inr (keep _ e)
theorem XM{G:Gr}{items:List Nat}{s:Nat}(h:s∉G.ks items):G.eC items s=[]:=by
 unfold Gr.eC
 rw[mV,R3]
 intro m hm e
 exact h (NE (eq_of_beq e) (.inl hm))
theorem ET{ks:List Nat}{v u:Nat->PV}(h:∀s∈ks,v s=u s):yW ks v=yW ks u:=P1 λ s hs=>by rw[h s hs]
theorem Dc{l:List Nat}{s t:Nat}(ht:t∈l):(l++[s]).idxOf t=l.idxOf t:=by rw[List.idxOf_append,F7 ht]
theorem Db{l:List Nat}{s:Nat}(hs:s∉l):(l++[s]).idxOf s=l.length:=by rw[List.idxOf_append,G0 hs];simp
section
variable{W:Wd}(P:dR W){n:Nat}{σ:PH}{g:Addr}{G:Gr}(hG:qA σ g G)(w:G.Wf){Q:PV->PH->Prop}
include P hG w
omit w in
theorem OB{m i d:Nat}{r:Rl}(h:G.It m i r d)(q:Q (C0 (m+1)) σ):J9 W (n+2) (.ref 307) [.ref g,C0 m] σ Q:=by
 have hi:=(D3.mp h.rule).1
 refine P.fn AA 22 rfl (ρ:=[.ref g,C0 m]) rfl (W3 (T0 rfl (hG.H2 "item" 157 (by simp)) (F9 (J1 rfl (hG.H2 "rule_of" 164 (by simp)) rfl (lM (n:=n) P hG h (F9 (O6 (J1 rfl (hG.H2 "dot_of" 171 (by simp)) rfl (CA (n:=n) P hG h (P2 rfl (Sn (M0 (NX (n:=n) P hG (d:=d+1) hi ?_)))))))))))))
 rw[show G.off i+(d+1)=m+1 from by rw[h.at_];rfl]
 exact q
omit w in
theorem OA{a:Addr}{items:List Nat}(ha:σ a=some (.list (items.map C0)))(hm:∀m∈items,m<G.aS.length)(hz:items.length<64)(q:∀c B9,Ext σ B9->σ c=none->B9 c=some (.list ((dU (G.eH items)).map C0))->Q (.ref c) B9):J9 W (n+2) (.ref 321) [.ref g,.ref a] σ Q:=by
 refine P.fn kS 24 rfl (ρ:=[.ref g,.ref a,.M7,.M7]) rfl (K1 (K7 (Led.start σ) rfl λ c2 aL L1=>?_))
 refine oE (l:=items) (f:=C0) (v:=.ref a) (λ pre ρ B9=>∃v3:PV,ρ=[.ref g,.ref a,.ref c2,v3]∧Led σ B9 [(c2,.list ((G.eH pre).map C0))] []) rfl (qT (L1.ext _ _ ha) (M8 hz) rfl) ⟨_,rfl,L1⟩ ?_ ?_
 ·intro pre m post ρ B9 R hl hQ;intros hQ v3 hZ;obtain rfl:=hZ.1;delta hZ hZ L;intro hR
  have it:=Gr.it (hm m (by rw[hl];simp))
  have Dj:=hG.ext L.ext
  have st:∀{cI:PH} {L5 R5:List (Addr×PO)},Led σ cI L5 R5->M9 aL (.ref a) cI:=λ h=>(h.ext _ _ ha).trans (L1.ext _ _ ha).symm
  have pz:(G.eH pre).length<=64:=by
   unfold Gr.eH
   rw[A8]
   have:=C7 List.length hl
   rw[B0]at this
   exact A9 (H4 ..) (by lia)
  have e:G.eH (pre++[m])=G.eH pre++if((G.cM m).isNone&&decide (G.S6 m≠0))=true then[G.S6 m]else[]:=by
   unfold Gr.eH
   rw[G7,C1,W1,List.filter_nil]
   split<;>rfl
  rw[e]at hR
  have fin:∀S7,∀b:Bool,S7=B9->((G.cM m).isNone&&decide (G.S6 m≠0))=b->S8 W tb (n+1) (cond b (.cons (.expr (.H2 (.loc 2) "append" (.cons (.H2 (.loc 0) "rule_of" (.cons (.loc 3) .nil)) .nil))) .nil) .nil) [.ref g,.ref a,.ref c2,C0 m] S7 λ fl O5 B9=>match fl with
    |.next=>S8 W tb (n+1) .nil O5 B9 R
    |.brk=>R .brk O5 B9
    |.cont=>R .cont O5 B9
    |.ret v=>R (.ret v) O5 B9:=λ S7 b hs hb=>by
   subst hs
   rw[hb]at hR
   clear hb;cases b
   ·exact s_end (s_end (hR _ _ _ trivial (st L) ⟨_,rfl,by rw[G0 C5,C9];exact L⟩))
   ·refine N4 (T0 rfl (N9 (L.get 0 rfl) _) (F9 (J1 rfl (Dj.H2 "rule_of" 164 (by simp)) rfl (lM (n:=n) P Dj it (M0 (aX 0 L rfl (mz pz rfl) λ Y9 _ L3=>s_end (s_end (hR _ _ _ trivial (st L3) ⟨_,rfl,?_⟩))))))))
    rw[F7 rfl,C1];exact L3
  have ea:OH (G.PT m) (G.rU m)=match G.cM m with|some s=>(s:Int)|none=> -1:=rfl
  refine Cc (IL (iD (J1 rfl (Dj.H2 "after" 178 (by simp)) rfl (zD (n:=n) P Dj it (P2 rfl ⟨(G.cM m).isNone,?_,?_⟩)))))
  ·rw[ea]
   cases G.cM m with
   |none=>rfl
   |some s=>exact C7 some (J8 (Int.not_lt.mpr (G6 s)))
  ·cases h1:(G.cM m).isNone with
   |false=>exact fin B9 false rfl (by rw[h1];rfl)
   |true=>
    refine iD (J1 rfl (Dj.H2 "rule_of" 164 (by simp)) rfl (lM (n:=n) P Dj it (P2 rfl ⟨decide (G.S6 m≠0),?_,fin B9 _ rfl (by rw[h1];rfl)⟩)))
    show some (!decide ((G.S6 m:Int)=0))=_
    congr 1
    rw[<-decide_not,eO];lia
 ·intro ρ B9 hQ;intros hQ v3 hZ;obtain rfl:=hZ.1;delta hZ hZ L
  exact W3 (H7 rfl (dE (L.get 0 rfl) (by unfold Gr.eH;rw[A8];exact H8 (H4 ..) hz) λ c5 EX=>q c5 _ (L.ext.trans (Ext.new EX _)) (L.ext.none EX) (PH.J7 ..)))
theorem UH{a:Addr}{items:List Nat}(hW:W.Ok)(ha:σ a=some (.list (items.map C0)))(hm:∀m∈items,m<G.aS.length)(hz:items.length<64)
  (q:∀c B9 m',Ext σ B9->σ c=none->B9 c=some (.dict ((G.kb items).map λ p=>(PK.int p.1,.tup (p.2.map C0))) m')->Q (.ref c) B9):J9 W (n+3) (.ref 314) [.ref g,.ref a] σ Q:=by
 refine P.fn kR 23 rfl (ρ:=[.ref g,.ref a,.M7,.M7,.M7,.M7]) rfl (K1 (dS (Led.start σ) λ c2 aL L1=>?_))
 have idx:∀{ks:List Nat} {la:List Addr} {s:Nat},ks.length=la.length->s∈ks->ks[ks.idxOf s]? =some s∧∃b,la[ks.idxOf s]? =some b:=λ hl hs=>by
  have:=Y6.mpr hs
  exact⟨by rw[C4 this,nX this],_,C4 (hl▸this)⟩
 refine oE (l:=items) (f:=C0) (v:=.ref a) (λ pre ρ B9=>∃(v3 v4:PV) (m':Nat) (la:List Addr),ρ=[.ref g,.ref a,.ref c2,v3,v4,.M7]∧(G.ks pre).length=la.length∧
  Led σ B9 [(c2,.dict (yW (G.ks pre) λ s=>.ref (la.getD ((G.ks pre).idxOf s) 0)) m')] (mB la λ i=>(G.eC pre ((G.ks pre).getD i 0)).map C0)) rfl (qT (L1.ext _ _ ha) (M8 hz) rfl) ⟨_,_,_,[],rfl,rfl,L1⟩ ?_ ?_
 ·intro pre m post ρ B9 R hl hQ;intros hQ v3 hZ;intros hZ v4 Q0;intros Q0 m' P4;intros P4 la fU;obtain rfl:=fU.1;delta fU fU LG L;intro hR
  have Ua:=hm m (by rw[hl];simp)
  have it:=Gr.it Ua
  have Dj:=hG.ext L.ext
  have st:∀{cI:PH} {L5 R5:List (Addr×PO)},Led σ cI L5 R5->M9 aL (.ref a) cI:=λ h=>(h.ext _ _ ha).trans (L1.ext _ _ ha).symm
  have kn:=lG w (items:=pre) (ks:=[]) (λ y hy=>hm y (by rw[hl];simp[hy])) ⟨.nil,λ _ h=>(nomatch h)⟩
  have kl:=NF w (items:=pre) λ y hy=>hm y (by rw[hl];simp[hy])
  have e1:G.ks (pre++[m])=G.gF (G.ks pre) m:=cH ..
  have e2:∀t,G.eC (pre++[m]) t=G.eC pre t++if G.cM m=some t then[m+1]else[]:=λ t=>by
   unfold Gr.eC
   rw[G7,C1,W1,List.filter_nil]
   by_cases c:G.cM m=some t<;>simp[c]
  refine K1 (J1 rfl (Dj.H2 "after" 178 (by simp)) rfl (zD (n:=n+1) P Dj it ?_))
  have ea:OH (G.PT m) (G.rU m)=match G.cM m with|some s=>(s:Int)|none=> -1:=rfl
  rw[ea]
  rw[e1]at hR
  unfold Gr.gF at hR
  cases hs:G.cM m with
  |none=>
   rw[hs]at hR
   refine oC rfl (s_end (hR _ _ _ trivial (st L) ⟨_,_,m',la,rfl,LG,?_⟩))
   refine(gW λ i _=>?_)▸L
   rw[e2,hs,G0 (by simp),C9]
  |some s=>
   rw[hs]at hR
   have tail:∀(Y9:PH) (ks:List Nat) (la:List Addr) (m':Nat),ks=(if s∈G.ks pre then G.ks pre else G.ks pre++[s])->ks.Nodup->s∈ks->ks.length=la.length->Led σ Y9 [(c2,.dict (yW ks λ s=>.ref (la.getD (ks.idxOf s) 0)) m')] (mB la λ i=>(G.eC pre (ks.getD i 0)).map C0)->
     S8 W tb (n+2) (.cons (.expr (.H2 (.sub (.loc 2) (.loc 4)) "append" (.cons (.call 15 (.ref 307) (.cons (.loc 0) (.cons (.loc 3) .nil))) .nil))) .nil) [.ref g,.ref a,.ref c2,C0 m,C0 s,.M7] Y9 λ fl O5 B9=>match fl with
      |.next=>S8 W tb (n+2) .nil O5 B9 R
      |.brk=>R .brk O5 B9
      |.cont=>R .cont O5 B9
      |.ret v=>R (.ret v) O5 B9:=λ Y9 ks la m' Nt nd Zy LG L=>by
    dsimp only at hR
    rw[<-Nt]at hR
    have hZ:=idx LG Zy;generalize hZ.1=i1;refine A0 hZ.2 λ b hb=>?_;try clear hZ
    have hv:gE Y9 (.ref c2) (C0 s)=some (.ref b):=by
     rw[GY (L.get 0 rfl) Zy,C2,hb];rfl
    have fi:(G.eC pre (ks.getD (ks.idxOf s) 0)).length<=64:=by
     unfold Gr.eC
     rw[A8]
     have:=C7 List.length hl
     rw[B0]at this
     exact A9 (H4 ..) (by lia)
    refine N4 (T0 (I8 rfl rfl hv) (N9 (L.HF (aD hb)) _) (F9 (H7 rfl (OB (n:=n) P (hG.ext L.ext) it (M0 (BE (L.HF (aD hb)) (mz fi rfl) ?_))))))
    have L4:=L.Pl (aD hb) (.list ((G.eC pre (ks.getD (ks.idxOf s) 0)).map C0++[C0 (m+1)]))
    rw[yU hb]at L4
    refine s_end (s_end (hR _ _ _ trivial (st L4) ⟨_,_,m',la,rfl,LG,?_⟩))
    refine(gW λ i hi=>?_)▸L4
    rw[e2,hs]
    by_cases c:i=ks.idxOf s
    ·clear L4 hs hi;subst c
     rw[F7 rfl,F7 (by rw[C2,i1];rfl),C1];rfl
    ·rw[G0 c,G0,C9]
     intro q
     have XS:i<ks.length:=LG▸hi
     rw[C2,C4 XS]at q
     have q':s=ks[i]:=G8 q
     have h2:=(D3.mp i1)
     intros h2 h3 h4
     exact c ((List.getElem_inj nd).mp (q'.symm.trans h4.symm))
   refine qM ((N3 rfl rfl rfl).trans (C7 some (H3 (G6 s)))) ?_
   have ht:pt B9 [.ref g,.ref a,.ref c2,C0 m,C0 s,.M7] (.cmp .NotIn (.loc 4) (.loc 2))=some (!decide (s∈G.ks pre)):=oU rfl rfl (Ku (L.get 0 rfl))
   by_cases c:s∈G.ks pre
   ·rw[H3 c]at ht
    exact oC ht (tail B9 (G.ks pre) la m' (F7 c).symm kn.1 c LG L)
   ·rw[J8 c]at ht
    refine qM ht (zT (uQ rfl λ c3 CT=>P2 rfl (P2 rfl ?_)))
    have L2:=L.wH CT (.list [])
    have eR:mB la (λ i=>(G.eC pre ((G.ks pre).getD i 0)).map C0)++[(c3,.list [])]=mB (la++[c3]) λ i=>(G.eC pre ((G.ks pre++[s]).getD i 0)).map C0:=by
     rw[<-BC]
     congr 1
     ·refine gW λ i hi=>?_
      rw[C2,C2,I4 (LG▸hi)]
     ·rw[C2,<-LG,N2 (D7 _),hU]
      show _=[(c3,PO.list ((G.eC pre s).map C0))]
      rw[XM c];rfl
    rw[eR]at L2
    refine OW 0 L2 rfl rfl (BH ..) (by unfold yW;rw[A8];exact H8 kl (by decide)) λ u6 bM _ L4=>s_end (tail bM (G.ks pre++[s]) (la++[c3]) u6 (G0 c).symm ?_ (by simp) (by simp[LG]) ?_)
    ·exact O8.mpr ⟨kn.1,by simp,λ x hx y hy=>by simp at hy;clear P e2 eR hG CT it st;clear tail hR L4 L2 ht hs;subst hy;rintro rfl;exact c hx⟩
    ·rw[QK c]at L4
     have ek:(yW (G.ks pre++[s]) λ t=>if t=s then .ref c3 else .ref (la.getD ((G.ks pre).idxOf t) 0))=yW (G.ks pre++[s]) λ t=>.ref ((la++[c3]).getD ((G.ks pre++[s]).idxOf t) 0):=ET λ t ht=>by
      by_cases e:t=s
      ·clear P e2 eR hG CT it st;clear tail hR L4 L2 ht hs;subst e
       rw[F7 rfl,Db c,LG,C2,N2 (D7 _),hU];rfl
      ·have Kz:t∈G.ks pre:=(G9.mp ht).resolve_right (by simpa using e)
       rw[G0 e,Dc Kz,C2,C2,I4 (LG▸Y6.mpr Kz)]
     rw[ek]at L4
     exact L4
 ·intro ρ B9 hQ;intros hQ v3 hZ;intros hZ v4 Q0;intros Q0 m' P4;intros P4 la fU;obtain rfl:=fU.1;delta fU fU LG L
  have kn:=lG w (items:=items) (ks:=[]) hm ⟨.nil,λ _ h=>(nomatch h)⟩
  have kl:=NF w hm
  refine K1 (dS L λ c5 W9 L2=>?_)
  refine uY (H7 rfl (fO hW (ns:=G.ks items) (L2.get 0 rfl) (by unfold yW;rw[G2];rfl) (H8 kl (by decide)) λ c6 Lj=>?_))
  have L3:=L2.alloc Lj (.list ((dU (G.ks items)).map C0))
  generalize W9.set c6 (.list ((dU (G.ks items)).map C0))=Y9 at L3
  have sn:(dU (G.ks items)).Nodup:=(N8 _).nodup_iff.mpr kn.1
  refine⟨_,qT (L3.get 2 rfl) (k:=10) (by rw[(N8 _).length_eq];exact kl) rfl,eE (λ pre ρ B9=>∃(v4:PV) (m5:Nat),ρ=[.ref g,.ref a,.ref c2,v3,v4,.ref c5]∧Led σ B9 [(c2,.dict (yW (G.ks items) λ s=>.ref (la.getD ((G.ks items).idxOf s) 0)) m'),(c5,.dict (yW pre λ s=>.tup ((dU (G.eC items s)).map C0)) m5),(c6,.list ((dU (G.ks items)).map C0))] (mB la λ i=>(G.eC items ((G.ks items).getD i 0)).map C0)) ⟨_,_,rfl,L3⟩ ?_ ?_⟩
  ·intro pre s post ρ B9 R hl hQ;intros hQ v4 hZ;intros hZ m5 Q0;clear L2;obtain rfl:=Q0.1;delta Q0 Q0 M;intro hR
   have hs:s∈G.ks items:=(N8 _).mem_iff.mp (by rw[hl];simp)
   have hn:s∉pre:=λ h=>by
    rw[hl,O8]at sn
    exact sn.2.2 s h s (.head _) rfl
   have hZ:=idx LG hs;generalize hZ.1=i1;refine A0 hZ.2 λ b hb=>?_;try clear hZ
   have hv:gE B9 (.ref c2) (C0 s)=some (.ref b):=by
    rw[GY (M.get 0 rfl) hs,C2,hb];rfl
   have DG:=M.HF (aD hb)
   rw[show(G.ks items).getD ((G.ks items).idxOf s) 0=s from by rw[C2,i1];rfl]at DG
   have rl:(G.eC items s).length<64:=by
    unfold Gr.eC
    rw[A8]
    exact H8 (H4 ..) hz
   have pl:pre.length<=10:=by
    have:=(N8 (G.ks items)).length_eq
    rw[hl,B0]at this
    lia
   refine zT (T5 (F9 (H7 (p1 (I8 rfl rfl hv)) (dE DG rl λ c7 Re=>M0 (mP (PH.J7 ..) (mz (k:=64) (by rw[(N8 _).length_eq];exact M8 rl) rfl) (P2 rfl (P2 rfl ?_)))))))
   have M2:=M.grow (Ext.new Re (.list ((dU (G.eC items s)).map C0)))
   refine OW 1 M2 rfl rfl (BH ..) (by unfold yW;rw[A8];exact H8 pl (by decide)) λ m6 cI _ M5=>s_end (hR _ _ _ trivial ((M5.get 2 rfl).trans (L3.get 2 rfl).symm) ⟨_,m6,rfl,?_⟩)
   rw[QK hn,show(yW (pre++[s]) λ t=>if t=s then .tup ((dU (G.eC items s)).map C0)else .tup ((dU (G.eC items t)).map C0))=yW (pre++[s]) λ s=>.tup ((dU (G.eC items s)).map C0)from ET λ t _=>by
    by_cases e:t=s
    ·clear L3 M2 hR hb Re hl LG hn DG hs hv hz i1 idx pl post rl sn v3 Y9;clear M5;subst e;rw[F7 rfl]
    ·rw[G0 e]]at M5
   exact M5
  ·intro ρ B9 hQ;intros hQ v4 hZ;intros hZ m5 Q0;clear L2;obtain rfl:=Q0.1;delta Q0 Q0 M
   refine X8 rfl (q c5 B9 m5 M.ext (M.new (c5,_) (H0 _ (.tail _ (.head _)))) ?_)
   rw[M.get 1 rfl]
   unfold yW Gr.kb
   rw[G2];rfl
end
structure St where
 k:List Nat
 sym:Int
 items:List Nat
 moves:List (Nat×Nat)
 iX:List Nat
structure SA where
 a:Addr
 dx:Addr
 it:Addr
 mv:Addr
 rd:Addr
 ep:Nat
def rM(l:List (Nat×Nat)):List (PK×PV):=l.map λ p=>(PK.int (p.1:Int),C0 p.2)
def SQ(i:Nat)(A:SA)(s:St):List (String×PV):=[("number",C0 i),("kernel",.tup (s.k.map C0)),("symbol",.int s.sym),("items",.ref A.it),("moves",.ref A.mv),("reductions",.ref A.rd)]
def wD(i:Nat)(A:SA)(s:St):List (Addr×PO):=[(A.a,.inst 254 A.dx),(A.dx,.attrs 254 (SQ i A s)),(A.it,.list (s.items.map C0)),(A.mv,.dict (rM s.moves) A.ep),(A.rd,.list (s.iX.map C0))]
def wC:Nat->List SA->List St->List (Addr×PO)
 |i,A::As,s::Ss=>wD i A s++wC (i+1) As Ss
 |_,_,_=>[]
theorem HO{i:Nat}{A:SA}{As:List SA}{s:St}{S:List St}:wC i (A::As) (s::S)=wD i A s++wC (i+1) As S:=rfl
theorem FL:∀(n:Nat) (As:List SA) (S:List St) (A:SA) (s:St),As.length=S.length->wC n (As++[A]) (S++[s])=wC n As S++wD (n+S.length) A s
 |n,[],[],A,s,_=>by show wD n A s++[]=[]++_;simp
 |n,B::As,t::S,A,s,h=>by
  rw[P7,P7,HO,HO,FL (n+1) As S A s (by simpa using h),C6]
  rw[show n+1+S.length=n+(t::S).length from by simp;lia]
theorem mN:∀(n:Nat) (As:List SA) (S:List St) (i:Nat) (A:SA) (s:St),As[i]? =some A->S[i]? =some s->∃X Y,wC n As S=X++(wD (n+i) A s++Y)∧∀A' s',wC n (As.set i A') (S.set i s')=X++(wD (n+i) A' s'++Y)
 |n,B::As,t::S,0,A,s,h1,h2=>by
  cases h1;cases h2
  exact⟨[],wC (n+1) As S,rfl,λ _ _=>rfl⟩
 |n,B::As,t::S,i+1,A,s,h1,h2=>by
  refine ee2.e (mN (n+1) As S i A s (by simpa using h1) (by simpa using h2)) λ X Y hZ=>?_;delta hZ e1 e2
  refine⟨wD n B t++X,Y,?_,λ A' s'=>?_⟩
  ·rw[HO,e1,C6];rw[show n+1+i=n+(i+1)from by lia]
  ·rw[gD,gD,HO,e2,C6];rw[show n+1+i=n+(i+1)from by lia]
 |_,[],_,_,_,_,h,_=>by simp at h
 |_,_::_,[],_,_,_,_,h=>by simp at h
def MN(k:List Nat):PK:=.bN (k.map Int.ofNat)
def oX(S:List St):List (PK×PV):=S.zipIdx.map λ p=>(MN p.1.k,C0 p.2)
theorem Ch{k l:List Nat}(h:MN k=MN l):k=l:=by
 unfold MN at h
 injection h with h
 have back:∀l:List Nat,(l.map Int.ofNat).map Int.toNat=l:=λ l=>by rw[G2];exact gL _
 rw[<-back k,h,back]
theorem xE{k:List Nat}:∀{S:List St} {n:Nat},(S.zipIdx n|>.map λ p=>(MN p.1.k,C0 p.2)).lookup (MN k)=if k∈S.map (·.k)then some (C0 (n+(S.map (·.k)).idxOf k))else none
 |[],n=>rfl
 |s::S,n=>by
  rw[List.zipIdx_cons,I6,I1,xE]
  by_cases e:k=s.k
  ·subst e;simp
  ·have:(MN k==MN s.k)=false:=by simpa using λ h=>e (Ch h)
   rw[this]
   simp only[I6,F8,e,false_or]
   split
   ·rw[List.idxOf_cons,show(s.k==k)=false from by simpa using hM e]
    simp only[cond_false]
    congr 2
    lia
   ·rfl
theorem bF(k:List Nat):keyOf (.tup (k.map C0))=some (MN k):=by
 show(intsOf (k.map C0)).map PK.bN=_
 rw[show k.map C0=(k.map Int.ofNat).map PV.int from by rw[G2];rfl,rQ];rfl
theorem EM(S:List St)(k:List Nat):U3 (MN k) (oX S)=true:=by show(oX S).all (jT ·.1)=true;unfold oX;rw[cS];exact G3.mpr λ _ _=>rfl
def bL(g c b kF st nm:Addr)(As:List SA)(S:List St)(e:Nat):List (Addr×PO):=[(b,.inst 415 kF),(kF,.attrs 415 [("grammar",.ref g),("closer",.ref c),("states",.ref st),("numbers",.ref nm)]),(st,.list (refs (As.map SA.a))),(nm,.dict (oX S) e)]
inductive BI(C8:PH)(g c b kF st nm:Addr)(X:List (Addr×PO))(As:List SA)(S:List St)(σ:PH):Prop
 |mk (e:Nat) (hl:As.length=S.length) (L:Led C8 σ (bL g c b kF st nm As S e++X) (wC 0 As S))
def lY(S:List St)(k:List Nat)(sym:Int):List St:=if k∈S.map (·.k)then S else S++[⟨k,sym,[],[],[]⟩]
def nR(S:List St)(k:List Nat):Nat:=(S.map (·.k)).idxOf k
theorem Led.perm{C8 σ:PH}{L R L' R':List (Addr×PO)}(h:Led C8 σ L R)(p:(L'++R').Perm (L++R)):Led C8 σ L' R':=⟨(p.map _).nodup_iff.mpr h.nd,λ q hq=>h.new q (p.mem_iff.mp hq),λ q hq=>h.at_ q (p.mem_iff.mp hq),h.ext⟩
theorem Led.join{C8 σ B9:PH}{L R L' R':List (Addr×PO)}(h:Led C8 σ L R)(m:Led σ B9 L' R'):Led C8 B9 L (R++(L'++R')):=by
 have e:L++(R++(L'++R'))=(L++R)++(L'++R'):=by rw[C6]
 refine⟨?_,λ p hp=>?_,λ p hp=>?_,h.ext.trans m.ext⟩
 ·rw[e,C1]
  refine O8.mpr ⟨h.nd,m.nd,λ a ha b hb=>?_⟩
  refine A0 (D2.mp ha) λ p hZ=>?_;generalize hZ.1=hp;clear ha;obtain rfl:=hZ.2;try clear hZ
  refine A0 (D2.mp hb) λ q hZ=>?_;generalize hZ.1=hq;clear hb;obtain rfl:=hZ.2;try clear hZ
  intro e
  have h1:=h.at_ p hp
  have h2:=m.new q hq
  rw[e,h2]at h1;cases h1
 ·rw[e]at hp
  rcases G9.mp hp with hp|hp
  ·exact h.new p hp
  ·exact h.ext.none (m.new p hp)
 ·rw[e]at hp
  rcases G9.mp hp with hp|hp
  ·exact m.ext _ _ (h.at_ p hp)
  ·exact m.at_ p hp
section
variable{W:Wd}(P:dR W){n:Nat}{σ C8:PH}{g c b kF st nm:Addr}{X:List (Addr×PO)}{As:List SA}{S:List St}{Q:PV->PH->Prop}
include P
theorem UL{L R:List (Addr×PO)}{i:Nat}{k:List Nat}{sym:Int}(hL:Led C8 σ L R)(q:∀A B9,Ext σ B9->Led C8 B9 L (R++wD i A ⟨k,sym,[],[],[]⟩)->Q (.ref A.a) B9):J9 W (n+2) (.ref 254) [C0 i,.tup (k.map C0),.int sym] σ Q:=by
 refine vR P 2 16 3 (r:=oL) rfl rfl (O5:=[C0 i,.tup (k.map C0),.int sym]) (λ _=>rfl) (λ _=>rfl) λ x dx aL L1=>?_
 refine Q9 rfl (K7 L1 rfl λ c1 W9 L2=>aE L2 rfl (C3 rfl) λ Y9 L3=>Q9 rfl (dS L3 λ c2 bM L4=>aE L4 rfl (C3 rfl) λ cI L5=>Q9 rfl (K7 L5 rfl λ c3 eM L6=>aE L6 rfl (C3 rfl) λ eX L7=>s_end ⟨rfl,?_⟩)))
 have:=hL.join L7
 exact q ⟨x,dx,c1,c2,c3,0⟩ eX L7.ext this
omit P in
theorem TC(S:List St)(s:St):oX (S++[s])=oX S++[(MN s.k,C0 S.length)]:=by
 unfold oX;rw[List.zipIdx_append,C1];simp
omit P in
theorem vP(S:List St)(k:List Nat):(oX S).lookup (MN k)=if k∈S.map (·.k)then some (C0 (nR S k))else none:=by
 have:=xE (k:=k) (S:=S) (n:=0)
 rw[Y4]at this
 exact this
omit P in
theorem WV{σ:PH}{a:Addr}{S:List St}{e:Nat}{k:List Nat}(h:σ a=some (.dict (oX S) e))(hk:k∈S.map (·.k)):gE σ (.ref a) (.tup (k.map C0))=some (C0 (nR S k)):=by
 rw[bE h (bF k),vP,F7 hk]
omit P in
theorem Qb{σ:PH}{a:Addr}{S:List St}{e:Nat}{k:List Nat}(h:σ a=some (.dict (oX S) e)):QP σ (.tup (k.map C0)) (.ref a)=some (decide (k∈S.map (·.k))):=by
 rw[uA h (bF k) (EM S k),vP]
 by_cases c:k∈S.map (·.k)<;>simp[c]
theorem xH{k:List Nat}{sym:Int}(hB:BI C8 g c b kF st nm X As S σ)(hz:S.length<2^20)(q:∀B9 Ba,BI C8 g c b kF st nm X Ba (lY S k sym) B9->(∀(i:Nat) (A:SA),As[i]? =some A->Ba[i]? =some A)->k∈(lY S k sym).map (·.k)->Q (C0 (nR (lY S k sym) k)) B9):
  J9 W (n+3) (.ref 398) [.ref b,.tup (k.map C0),.int sym] σ Q:=by
 obtain⟨e,hl,L⟩:=hB
 have f1:∀{B9:PH} {As:List SA} {S:List St} {e:Nat} {R:List (Addr×PO)},Led C8 B9 (bL g c b kF st nm As S e++X) R->fld B9 (.ref b) "numbers"=some (.ref nm)∧fld B9 (.ref b) "states"=some (.ref st):=λ h=>⟨(h.obj 0 1 rfl rfl).fld _,(h.obj 0 1 rfl rfl).fld _⟩
 refine P.fn gO 28 rfl (ρ:=[.ref b,.tup (k.map C0),.int sym]) rfl ?_
 have ht:pt σ [.ref b,.tup (k.map C0),.int sym] (.cmp .NotIn (.loc 1) (.attr (.loc 0) "numbers"))=some (!decide (k∈S.map (·.k))):=N3 rfl (D8 rfl (f1 L).1) (by show Option.map _ (QP σ _ _)=_;rw[Qb (L.get 3 rfl)];rfl)
 unfold lY at q
 by_cases hk:k∈S.map (·.k)
 ·rw[H3 hk]at ht
  rw[F7 hk]at q
  exact oC ht (X8 (I8 (D8 rfl (f1 L).1) rfl (WV (L.get 3 rfl) hk)) (q σ As ⟨e,hl,L⟩ (λ _ _ h=>h) hk))
 ·rw[J8 hk]at ht
  rw[G0 hk]at q
  have l1:(refs (As.map SA.a)).length=S.length:=by rw[refs,A8,A8,hl]
  refine qM ht (rG 3 (x:=C0 S.length) L rfl (V8 (D8 rfl (f1 L).2) (len_list (L.get 2 rfl) l1)) (D8 rfl (f1 L).1) rfl (bF k) (EM S k) (by unfold oX;rw[A8,List.length_zipIdx];exact nN hz (by decide)) λ e' aL _ L1=>?_)
  rw[AC (by rw[vP,G0 hk])]at L1
  have en:oX S++[(MN k,C0 S.length)]=oX (S++[⟨k,sym,[],[],[]⟩]):=(TC S ⟨k,sym,[],[],[]⟩).symm
  rw[en]at L1
  have Uu:Led C8 aL ((b,.inst 415 kF)::(kF,.attrs 415 [("grammar",.ref g),("closer",.ref c),("states",.ref st),("numbers",.ref nm)])::(st,.list (refs (As.map SA.a)))::(nm,.dict (oX (S++[⟨k,sym,[],[],[]⟩])) e')::X) (wC 0 As S):=L1
  have f2:fld aL (.ref b) "states"=some (.ref st):=(Uu.obj 0 1 rfl rfl).fld _
  refine N4 (T0 (D8 rfl f2) (N9 (Uu.get 2 rfl) _) (F9 (H7 (I9 (V8 (D8 rfl f2) (len_list (Uu.get 2 rfl) l1)) rfl) (UL (n:=n) P (i:=S.length) Uu λ A W9 E2 L2=>M0 (aX 2 L2 rfl (by rw[l1];exact M8 (nN hz (by decide))) λ Y9 _ L3=>s_end ?_)))))
  have eb:=FL 0 As S A ⟨k,sym,[],[],[]⟩ hl
  rw[Y4]at eb
  rw[<-eb]at L3
  have er:refs (As.map SA.a)++[.ref A.a]=refs ((As++[A]).map SA.a):=by simp[refs]
  rw[er]at L3
  have L4:Led C8 Y9 (bL g c b kF st nm (As++[A]) (S++[⟨k,sym,[],[],[]⟩]) e'++X) (wC 0 (As++[A]) (S++[⟨k,sym,[],[],[]⟩])):=L3
  have hm:k∈(S++[(⟨k,sym,[],[],[]⟩:St)]).map (·.k):=by simp
  exact X8 (I8 (D8 rfl (f1 L4).1) rfl (WV (L4.get 3 rfl) hm)) (q Y9 (As++[A]) ⟨e',by simp[hl],L4⟩ (λ i B h=>by rw[I4 (D3.mp h).1];exact h) hm)
end
theorem An{G:Gr}{m s:Nat}(hm:m<G.aS.length)(h:G.cM m=some s):m+1<G.aS.length:=
 have it:=Gr.it hm
 have j:G.It (m+1) (G.S6 m) (G.PT m) (G.rU m+1):=⟨it.rule,(D3.mp h).1,(C7 (·+1) it.at_).trans (kD ..)⟩
 (D3.mp j.own).1
theorem Gr.yQ{G:Gr}{i:Nat}(hi:i<G.rules.length):G.aS[G.off i]? =some i:=Gr.It.own (d:=0) ⟨C4 hi,K3 _,rfl⟩
theorem of_lt{G:Gr}{l:List Nat}{i:Nat}(h:i∈l.flatMap G.of):i<G.rules.length:=let⟨_,_,h⟩:=P6.mp h;(vN h).1
theorem Gi{G:Gr}(k:List Nat):(G.HW k).Nodup:=by
 refine List.Pairwise.filter _ (X4.mpr (bK (R:=(·≠·)) (λ{a b} ha hb ne e=>ne (G8 ((Gr.yQ (of_lt ha)).symm.trans ((C7 (G.aS[·]?) e).trans (Gr.yQ (of_lt hb)))))) ?_))
 refine List.pairwise_flatMap.mpr ⟨λ a _=>List.nodup_range.filter _,(List.nodup_range.filter _).imp λ ne x hx y hy e=>?_⟩
 have hZ:=vN hx;refine A0 hZ.2 λ r Q0=>?_;delta Q0 h1 h2;try clear hZ
 have hZ:=vN hy;refine A0 hZ.2 λ r' Q0=>?_;delta Q0 h3 h4;try clear hZ
 rw[e,h3]at h1;clear h3;cases h1
 exact ne (h2.symm.trans h4)
theorem CI{G:Gr}{k:List Nat}{m:Nat}(h:m∈G.HW k):m<G.aS.length∧m∉k:=by
 have hZ:=J5.mp h;delta hZ h1 h2
 refine A0 (D2.mp h1) λ i hZ=>?_;generalize hZ.1=hi;clear h1 h;obtain rfl:=hZ.2;try clear hZ
 exact⟨(D3.mp (Gr.yQ (of_lt hi))).1,by simpa using h2⟩
structure Gr.Ks(G:Gr)(k:List Nat):Prop where
 nd:k.Nodup
 lt:∀m∈k,m<G.aS.length
theorem Gr.Ks.len{G:Gr}{k:List Nat}(h:G.Ks k)(w:G.Wf):k.length<=15:=A9 (Y3 h.nd h.lt) w.own
theorem Gr.Ks.close{G:Gr}{k:List Nat}(h:G.Ks k):G.Ks (G.close k):=by
 refine⟨O8.mpr ⟨(N8 _).nodup_iff.mpr h.nd,(N8 _).nodup_iff.mpr (Gi k),λ a ha b hb e=>?_⟩,λ m hm=>?_⟩
 ·exact(CI ((N8 _).mem_iff.mp hb)).2 (e▸(N8 _).mem_iff.mp ha)
 ·rcases G9.mp hm with hm|hm
  ·exact h.lt m ((N8 _).mem_iff.mp hm)
  ·exact(CI ((N8 _).mem_iff.mp hm)).1
theorem Gr.Ks.eC{G:Gr}{l:List Nat}(h:G.Ks l)(s:Nat):G.Ks (dU (G.eC l s)):=by
 have nd:(G.eC l s).Nodup:=X4.mpr ((h.nd.filter _).imp λ ne e=>ne (Nat.succ.inj e))
 refine⟨(N8 _).nodup_iff.mpr nd,λ m hm=>?_⟩
 refine A0 (D2.mp ((N8 _).mem_iff.mp hm)) λ x hZ=>?_;generalize hZ.1=hx;clear hm;obtain rfl:=hZ.2;try clear hZ
 have hZ:=J5.mp hx;delta hZ h1 h2
 exact An (h.lt x h1) (eq_of_beq h2)
def aI(i:Nat)(S:List St)(q:Nat×List Nat):List St:=(lY S q.2 q.1).modify i λ s=>{s with moves:=s.moves++[(q.1,nR (lY S q.2 q.1) q.2)]}
def Gr.TU(G:Gr)(S:List St)(i:Nat):List St:=S.modify i λ s=>{s with items:=G.close s.k,iX:=dU (G.eH (G.close s.k))}
def Gr.Kq(G:Gr)(S:List St)(i:Nat):List (Nat×List Nat):=G.kb (G.close (S.getD i ⟨[],0,[],[],[]⟩).k)
def Gr.ex(G:Gr)(S:List St)(i:Nat):List St:=(G.Kq S i).foldl (aI i) (G.TU S i)
def Ol(k:List Nat):Prop:=k.Pairwise (·<·)∧k≠[]
structure Gr.KQ(G:Gr)(S:List St):Prop where
 nd:(S.map (·.k)).Nodup
 ks:∀s∈S,G.Ks s.k∧Ol s.k
def code(k:List Nat):Nat:=k.foldr (λ x a=>2^x|||a) 0
theorem BW(i:Nat):∀k:List Nat,(code k).testBit i=decide (i∈k)
 |[]=>Nat.zero_testBit i
 |x::k=>by
  show(2^x|||code k).testBit i=_
  rw[nV,Nat.testBit_two_pow,BW i k]
  simp[eq_comm]
theorem RQ{N:Nat}:∀{k:List Nat},(∀m∈k,m<N)->code k<2^N
 |[],_=>Z8 N
 |x::k,h=>Z5 (kI (by decide) (h x (.head _))) (RQ λ m hm=>h m (.tail _ hm))
theorem code_inj{k l:List Nat}(h:k.Pairwise (·<·))(h':l.Pairwise (·<·))(e:code k=code l):k=l:=by
 have m:∀i,i∈k↔i∈l:=λ i=>eO.mp ((BW i k).symm.trans ((C7 (Nat.testBit · i) e).trans (BW i l)))
 exact List.Perm.eq_of_pairwise (λ a b _ _ h1 h2=>absurd h1 (Nat.lt_asymm h2)) h h' ((List.perm_ext_iff_of_nodup (h.imp U6) (h'.imp U6)).mpr m)
theorem Gr.KQ.len{G:Gr}{S:List St}(w:G.Wf)(h:G.KQ S):S.length<=32768:=by
 have nd:(S.map λ s=>code s.k).Nodup:=X4.mpr (bK (λ{a b} ha hb ne e=>ne (code_inj (h.ks a ha).2.1 (h.ks b hb).2.1 e)) (X4.mp h.nd))
 have:=Y3 (N:=2^G.aS.length) nd λ x hx=>by
  refine A0 (D2.mp hx) λ s hZ=>?_;generalize hZ.1=hs;clear hx;obtain rfl:=hZ.2;try clear hZ
  exact RQ (h.ks s hs).1.lt
 rw[A8]at this
 exact A9 this (Nat.pow_le_pow_right (by decide) w.own)
theorem QE{S:List St}{i:Nat}{f:St->St}(h:∀s,(f s).k=s.k):(S.modify i f).map (·.k)=S.map (·.k):=by
 refine iC λ j=>?_
 rw[H9,H9,aZ]
 cases S[j]? with
 |none=>rfl
 |some s=>by_cases e:i=j<;>simp[e,h]
theorem Gr.KQ.mod{G:Gr}{S:List St}(h:G.KQ S){i:Nat}{f:St->St}(hf:∀s,(f s).k=s.k):G.KQ (S.modify i f):=by
 refine⟨(QE hf).symm▸h.nd,λ s hs=>?_⟩
 have:s.k∈S.map (·.k):=QE (i:=i) hf▸J2 hs
 refine A0 (D2.mp this) λ t hZ=>?_;delta hZ ht e
 exact e▸h.ks t ht
theorem Gr.KQ.num{G:Gr}{S:List St}(h:G.KQ S){k:List Nat}(hk:G.Ks k∧Ol k)(y:Int):G.KQ (lY S k y):=by
 unfold lY
 split
 ·exact h
 ·rename_i c
  refine⟨?_,λ s hs=>?_⟩
  ·rw[C1]
   exact O8.mpr ⟨h.nd,.cons (λ _ h=>(nomatch h)) .nil,λ a ha b hb e=>c (show k∈_ from(show a=k from e.trans (D5.mp hb))▸ha)⟩
  ·rcases G9.mp hs with hs|hs
   ·exact h.ks s hs
   ·exact D5.mp hs▸hk
theorem ND{G:Gr}{y:Nat}:∀{items ks:List Nat},y∈items.foldl G.gF ks->y∈ks∨∃m∈items,G.cM m=some y
 |[],_,h=>.inl h
 |m::items,ks,h=>by
  rcases ND (items:=items) h with h|⟨x,hx,e⟩
  ·unfold Gr.gF at h
   split at h
   ·rename_i s e
    split at h
    ·exact .inl h
    ·exact(G9.mp h).imp id λ h=>⟨m,.head _,e.trans (C7 some (D5.mp h).symm)⟩
   ·exact .inl h
  ·exact .inr ⟨x,.tail _ hx,e⟩
theorem Hr{G:Gr}{k:List Nat}(h:G.Ks k):∀q∈G.kb (G.close k),G.Ks q.2∧Ol q.2:=λ q hq=>by
 refine A0 (D2.mp hq) λ s hZ=>?_;generalize hZ.1=hs;clear hq;obtain rfl:=hZ.2;try clear hZ
 have:=h.close.eC s
 refine A0 ((ND ((N8 _).mem_iff.mp hs)).resolve_left λ h=>nomatch h) λ m hZ=>?_;delta hZ hm e
 exact⟨this,(this.nd.and (FZ _)).imp λ h=>Nat.lt_of_le_of_ne h.2 h.1,List.ne_nil_of_mem ((N8 _).mem_iff.mpr (J2 (J5.mpr ⟨hm,by rw[e];exact O2 _⟩)))⟩
theorem TR{G:Gr}{S:List St}{i:Nat}{q:Nat×List Nat}(h:G.KQ S)(hq:G.Ks q.2∧Ol q.2):G.KQ (aI i S q):=(h.num hq _).mod λ _=>rfl
theorem NN{G:Gr}{i:Nat}:∀{l:List (Nat×List Nat)} {S:List St},G.KQ S->(∀q∈l,G.Ks q.2∧Ol q.2)->G.KQ (l.foldl (aI i) S)
 |[],_,h,_=>h
 |q::l,S,h,hl=>NN (l:=l) (TR h (hl q (.head _))) λ x hx=>hl x (.tail _ hx)
theorem GR{S:List St}{i:Nat}{s:St}(h:S[i]? =some s)(k:List Nat)(y:Int):(lY S k y)[i]? =some s:=by
 unfold lY
 split
 ·exact h
 ·rw[I4 (D3.mp h).1];exact h
theorem Xz(i:Nat)(S:List St)(q:Nat×List Nat):(aI i S q).map (·.k)=(lY S q.2 q.1).map (·.k):=QE λ _=>rfl
theorem Qa(S:List St)(k:List Nat)(y:Int):S.map (·.k)<+:(lY S k y).map (·.k)∧k∈(lY S k y).map (·.k):=by
 unfold lY
 split
 ·rename_i h;exact⟨sJ _,h⟩
 ·rw[C1];exact⟨List.prefix_append ..,G4 _ (.head _)⟩
theorem JN{S S':List St}{k:List Nat}(p:S.map (·.k)<+:S'.map (·.k))(h:k∈S.map (·.k)):nR S' k=nR S k:=by
 intros p t e
 unfold nR
 rw[<-e,List.idxOf_append,F7 h]
theorem NO{i:Nat}:∀(l:List (Nat×List Nat)) {S:List St} {s:St},S[i]? =some s->(l.foldl (aI i) S)[i]? =some {s with moves:=s.moves++l.map λ q=>(q.1,nR (l.foldl (aI i) S) q.2)}∧S.map (·.k)<+:(l.foldl (aI i) S).map (·.k)∧∀q∈l,q.2∈(l.foldl (aI i) S).map (·.k)
 |[],S,s,h=>⟨by rw[nO,C9];exact h,sJ _,λ _ h=>nomatch h⟩
 |q::l,S,s,h=>by
  have hZ:=NO l (S:=aI i S q) (s:={s with moves:=s.moves++[(q.1,nR (lY S q.2 q.1) q.2)]}) (by unfold aI;rw[aZ,GR h];simp);delta hZ h1 h2 h3
  have hZ:=Qa S q.2 q.1;delta hZ n1 n2
  rw[Xz]at h2
  rw[J0]
  refine⟨h1.trans ?_,n1.trans h2,λ x hx=>?_⟩
  ·rw[<-JN h2 n2,C6];rfl
  ·clear h1 n1;rcases F8.mp hx with rfl|hx
   ·exact h2.subset n2
   ·exact h3 x hx
theorem set_same{α:Type}{l:List α}{i:Nat}{x:α}(h:l[i]? =some x):l.set i x=l:=(fG h x).2.trans (fG h x).1.symm
theorem Led.swap{C8 σ:PH}{L U V:List (Addr×PO)}{p q:Addr×PO}(h:Led C8 σ (L++[q]) (U++p::V)):Led C8 σ L (U++q::V):=
 (h.sub (L':=L++[q]) (R':=U++V) (.append (.refl _) (.append (.refl _) (.cons _ (.refl _))))).perm (by rw[C6];exact .append_left _ List.perm_middle)
structure DN(σ:PH)(i:Nat)(A:SA)(s:St):Prop where
 ins:σ A.a=some (.inst 254 A.dx)
 Up:σ A.dx=some (.attrs 254 (SQ i A s))
 it:σ A.it=some (.list (s.items.map C0))
 mv:σ A.mv=some (.dict (rM s.moves) A.ep)
 rd:σ A.rd=some (.list (s.iX.map C0))
theorem DN.ext{σ B9:PH}(E:Ext σ B9){i:Nat}{A:SA}{s:St}(h:DN σ i A s):DN B9 i A s:=⟨E _ _ h.ins,E _ _ h.Up,E _ _ h.it,E _ _ h.mv,E _ _ h.rd⟩
theorem DN.ob{σ:PH}{i:Nat}{A:SA}{s:St}(h:DN σ i A s):aT σ A.a 254 (SQ i A s):=⟨A.dx,h.ins,h.Up⟩
theorem uX{α:Type}{l:List α}{i:Nat}{x:α}(h:l[i]? =some x)(y:α):(l.set i y)[i]? =some y:=by rw[aY,F7 rfl,F7 (D3.mp h).1]
theorem Gd{As:List SA}{S:List St}{i:Nat}{A:SA}{s:St}(hA:As[i]? =some A)(hs:S[i]? =some s){p:Addr×PO}(hp:p∈wD i A s):p∈wC 0 As S:=by
 refine ee2.e (mN 0 As S i A s hA hs) λ U V hZ=>?_;delta hZ e
 rw[e,Y4]
 exact G4 _ (H0 _ hp)
theorem Led.st{C8 σ:PH}{L:List (Addr×PO)}{As:List SA}{S:List St}(h:Led C8 σ L (wC 0 As S)){i:Nat}{A:SA}{s:St}(hA:As[i]? =some A)(hs:S[i]? =some s):DN σ i A s:=
 have m:=λ j {a o} (e:(wD i A s)[j]? =some (a,o))=>h.at_ (a,o) (G4 _ (Gd hA hs (B5 e)))
 ⟨m 0 rfl,m 1 rfl,m 2 rfl,m 3 rfl,m 4 rfl⟩
theorem Ke{S S':List St}(h:S.map (·.k)=S'.map (·.k)):oX S=oX S':=by
 have e:∀S:List St,oX S=(S.map (·.k)).zipIdx.map λ p=>(MN p.1,C0 p.2):=λ S=>by rw[List.zipIdx_map,G2];rfl
 rw[e,e,h]
section
variable{σ B4 C8:PH}{g c b kF st nm:Addr}{X:List (Addr×PO)}{As:List SA}{S:List St}{i j:Nat}{A A':SA}{s s':St}{a c':Addr}{o o':PO}
theorem Aj(hA:As[i]? =some A)(hs:S[i]? =some s)(ha:A'.a=A.a)(hk:s'.k=s.k)(e:Nat):bL g c b kF st nm (As.set i A') (S.set i s') e=bL g c b kF st nm As S e:=by
 unfold bL
 rw[iB,ha,set_same (by rw[H9,hA];rfl),Ke (S:=S.set i s') (S':=S) (by rw[iB,hk];exact set_same (by rw[H9,hs];rfl))]
theorem BI.put(h:BI C8 g c b kF st nm X As S σ)(hA:As[i]? =some A)(hs:S[i]? =some s)(ha:A'.a=A.a)(hk:s'.k=s.k)(j:Nat)(e:(wD i A s)[j]? =some (a,o))(e':wD i A' s'=(wD i A s).set j (a,o')):BI C8 g c b kF st nm X (As.set i A') (S.set i s') (σ.set a o'):=by
 obtain⟨z,hl,L⟩:=h
 refine ee2.e (mN 0 As S i A s hA hs) λ U V hZ=>?_;delta hZ e1 e2
 rw[Y4]at e1 e2
 have hZ:=fG e (a,o');delta hZ p1 p2
 refine⟨z,by rw[P0,P0];exact hl,?_⟩
 rw[Aj hA hs ha hk]
 refine L.put (o:=o) (X:=(bL g c b kF st nm As S z++X)++(U++(wD i A s).take j)) (Y:=(wD i A s).drop (j+1)++V) ?_ ?_
 ·rw[e1];conv=>lhs;rw[p1]
  simp only[C6,P7]
 ·rw[e2,e',p2];simp only[C6,P7]
theorem BI.fld(h:BI C8 g c b kF st nm X As S σ)(E:Ext σ B4)(hc:σ c'=none)(h2:B4 c'=some o')(hA:As[i]? =some A)(hs:S[i]? =some s)(ha:A'.a=A.a)(hk:s'.k=s.k)(j:Nat)(e:(wD i A s)[j]? =some (a,o)){o1 o2:PO}(e1:((wD i A s).set j (c',o'))[1]? =some (A.dx,o1))(e':wD i A' s'=((wD i A s).set j (c',o')).set 1 (A.dx,o2)):
  BI C8 g c b kF st nm X (As.set i A') (S.set i s') (B4.set A.dx o2):=by
 obtain⟨z,hl,L⟩:=h
 refine ee2.e (mN 0 As S i A s hA hs) λ U V hZ=>?_;delta hZ f1 f2
 rw[Y4]at f1 f2
 have hZ:=fG e (c',o');delta hZ p1 p2
 have hZ:=fG e1 (A.dx,o2);delta hZ p3 p4
 have L1:=L.adopt E hc h2
 rw[f1]at L1
 have L2:Led C8 B4 (bL g c b kF st nm As S z++X) (U++((wD i A s).set j (c',o')++V)):=by
  have:=Led.swap (U:=U++(wD i A s).take j) (V:=(wD i A s).drop (j+1)++V) (p:=(a,o)) (q:=(c',o')) (L:=bL g c b kF st nm As S z++X) (by rw[C6 U,<-P7,<-C6 ((wD i A s).take j),<-p1];exact L1)
  rw[p2,C6,P7,<-C6]
  exact this
 refine⟨z,by rw[P0,P0];exact hl,?_⟩
 rw[Aj hA hs ha hk]
 refine L2.put (o:=o1) (X:=(bL g c b kF st nm As S z++X)++(U++((wD i A s).set j (c',o')).take 1)) (Y:=((wD i A s).set j (c',o')).drop 2++V) ?_ ?_
 ·conv=>lhs;rw[p3]
  simp only[C6,P7]
 ·rw[f2,e',p4];simp only[C6,P7]
end
section
variable{W:Wd}{n:Nat}{σ:PH}{ρ:List PV}{r:V0}{K:Fl->List PV->PH->Prop}{e:PE}
theorem PP{f:String}{a:Addr}(i:Nat)(h0:ρ[i]? =some (.ref a))(he:(wp W tb n e).v ρ σ λ x B4=>∃C dx fs,B4 a=some (.inst C dx)∧B4 dx=some (.attrs C fs)∧tb.fld C f=true∧fs.length<=100∧S8 W tb n r ρ (B4.set dx (.attrs C (lU f x fs))) K):
  S8 W tb n (.cons (.Q1 (.loc i) f e) r) ρ σ K:=by
 show(wp W tb n e).v ρ σ λ x B4=>(wp W tb n (.loc i)).v ρ B4 λ ov H6=>kP tb H6 f x (λ R9=>S8 W tb n r ρ R9 K) ov
 refine Eq.mp (C7 _ ?_) he
 funext x B4
 show _=match ρ[i]? with|some .M7=>False|some v=>kP tb B4 f x (λ R9=>S8 W tb n r ρ R9 K) v|none=>False
 rw[h0]
 rfl
end
section
variable{σ C8:PH}{g c b kF t nm:Addr}{X Y:List (Addr×PO)}{As:List SA}{S:List St}{i:Nat}{A:SA}{s:St}
theorem BI.ob(h:BI C8 g c b kF t nm X As S σ):aT σ b 415 [("grammar",.ref g),("closer",.ref c),("states",.ref t),("numbers",.ref nm)]∧Ext C8 σ∧σ t=some (.list (refs (As.map SA.a)))∧As.length=S.length:=
 let⟨_,hl,L⟩:=h;⟨L.obj 0 1 rfl rfl,L.ext,L.get 2 rfl,hl⟩
theorem BI.st(h:BI C8 g c b kF t nm X As S σ)(hA:As[i]? =some A)(hs:S[i]? =some s):DN σ i A s:=let⟨_,_,L⟩:=h;L.st hA hs
theorem BI.adopt{c':Addr}{o:PO}{B9:PH}(h:BI C8 g c b kF t nm X As S σ)(E:Ext σ B9)(hc:σ c'=none)(h2:B9 c'=some o):BI C8 g c b kF t nm (X++[(c',o)]) As S B9:=
 let⟨z,hl,L⟩:=h;⟨z,hl,C6 .. ▸L.adopt E hc h2⟩
theorem BI.drop(h:BI C8 g c b kF t nm (X++Y) As S σ):BI C8 g c b kF t nm X As S σ:=let⟨z,hl,L⟩:=h;⟨z,hl,Led.drop (X:=Y) (C6 .. ▸L)⟩
theorem BI.x(h:BI C8 g c b kF t nm (X++Y) As S σ){p:Addr×PO}(hp:p∈Y):σ p.1=some p.2:=let⟨_,_,L⟩:=h;L.at_ p (H0 _ (G4 _ (G4 _ hp)))
end
theorem MY{S:List St}{i:Nat}{s:St}(h:S[i]? =some s)(f:St->St):S.modify i f=S.set i (f s):=by
 refine iC λ j=>?_
 rw[aZ,aY]
 by_cases e:i=j
 ·subst e;rw[h];simp[(D3.mp h).1]
 ·simp[e]
theorem TE{l:List (Nat×Nat)}{y:Nat}(h:y∉l.map (·.1)):(rM l).lookup (.int y)=none:=by
 rw[List.lookup_eq_none_iff]
 intro p hp
 refine A0 (D2.mp hp) λ q hZ=>?_;generalize hZ.1=hq;clear hp;obtain rfl:=hZ.2;try clear hZ
 refine bH.mpr λ e=>h ?_
 injection e with e
 exact rA e▸J2 hq
theorem EP(l:List (Nat×Nat))(y:Int):U3 (.int y) (rM l)=true:=G3.mpr λ p hp=>by
 refine A0 (D2.mp hp) λ q hZ=>?_;clear hp;obtain rfl:=hZ.2;try clear hZ;rfl
theorem Kr{σ:PH}{a:Addr}{G:Gr}{items:List Nat}{m:Nat}{x:Nat×List Nat}(h:σ a=some (.dict ((G.kb items).map λ p=>(PK.int p.1,.tup (p.2.map C0))) m))(hx:x∈G.kb items):gE σ (.ref a) (C0 x.1)=some (.tup (x.2.map C0)):=by
 refine A0 (D2.mp hx) λ s hZ=>?_;generalize hZ.1=hs;clear hx;obtain rfl:=hZ.2;try clear hZ
 exact GY (v:=λ s=>.tup ((dU (G.eC items s)).map C0)) (by rw[h];unfold Gr.kb yW;rw[G2];rfl) hs
theorem Kt{G:Gr}(w:G.Wf){items:List Nat}(hm:∀m∈items,m<G.aS.length):(G.kb items).length<=10:=by unfold Gr.kb;rw[A8,(N8 _).length_eq];exact NF w hm
theorem Hs{G:Gr}(w:G.Wf){items:List Nat}(hm:∀m∈items,m<G.aS.length):((G.kb items).map (·.1)).Nodup:=by
 unfold Gr.kb
 rw[G2]
 exact(gL (dU _)).symm▸(N8 _).nodup_iff.mpr (lG w hm ⟨.nil,λ _ h=>(nomatch h)⟩).1
section
variable{W:Wd}(P:dR W){n:Nat}{σ C8:PH}{g c b kF st nm:Addr}{X:List (Addr×PO)}{As:List SA}{S:List St}{Q:PV->PH->Prop}{G:Gr}(hG:qA C8 g G)(w:G.Wf)(hC:wK C8 c g G)
include P hG w hC
theorem ZV(hW:W.Ok){i:Nat}{A:SA}{s:St}(hB:BI C8 g c b kF st nm X As S σ)(hS:G.KQ S)(hA:As[i]? =some A)(hs:S[i]? =some s)(hm:s.moves=[])(q:∀B9 Ba,BI C8 g c b kF st nm X Ba (G.ex S i) B9->Q .none B9):J9 W (n+5) (.ref 405) [.ref b,.ref A.a] σ Q:=by
 refine P.fn kX 29 rfl (ρ:=[.ref b,.ref A.a,.M7,.M7]) rfl ?_
 have hZ:=hB.ob;delta hZ ob E0
 have is:=hB.st hA hs
 have hk:=hS.ks s (B5 hs)
 have zk:=hk.1.len w
 have Zs:=Kt w (hk.1.close).lt
 have Nt:=hk.1.close
 have zi:=Nt.len w
 have Yx:(G.close s.k).length<64:=H8 zi (by decide)
 refine PP 1 rfl (J1 (D8 rfl (ob.fld _)) ((hC.ext E0).H2 "close" 293 (by simp)) (p1 (D8 rfl (is.ob.fld _))) (Fv (n:=n) P (hG.ext E0) w (hC.ext E0) hk.1.lt (H8 zk (by decide)) λ c1 aL E1 Nw h1=>⟨254,A.dx,SQ i A s,E1 _ _ is.ins,E1 _ _ is.Up,rfl,C3 rfl,?_⟩))
 have B1:=hB.fld E1 Nw h1 hA hs (A':={A with it:=c1}) (s':={s with items:=G.close s.k}) (o2:=.attrs 254 (lU "items" (.ref c1) (SQ i A s))) rfl rfl 2 rfl rfl rfl
 generalize aL.set A.dx _=W9 at B1
 clear is ob
 have Xm:=uX hA {A with it:=c1}
 have Wu:=uX hs {s with items:=G.close s.k}
 have hZ:=B1.ob;delta hZ ob E0
 have is:=B1.st Xm Wu
 refine PP 1 rfl (H7 (I9 (D8 rfl (ob.fld _)) (p1 (D8 rfl (is.ob.fld _)))) (OA (n:=n+2) P (hG.ext E0) is.it Nt.lt Yx λ c2 Y9 E3 Bj h2=>⟨254,A.dx,_,E3 _ _ is.ins,E3 _ _ is.Up,rfl,C3 rfl,?_⟩))
 have B2:=B1.fld E3 Bj h2 Xm Wu (A':={A with it:=c1,rd:=c2}) (s':={s with items:=G.close s.k,iX:=dU (G.eH (G.close s.k))}) (o2:=.attrs 254 (lU "reductions" (.ref c2) (SQ i {A with it:=c1} {s with items:=G.close s.k}))) rfl rfl 4 rfl rfl rfl
 rw[List.set_set,List.set_set]at B2
 generalize Y9.set A.dx _=bM at B2
 clear is ob B1 E3
 have i6:=uX hA {A with it:=c1,rd:=c2}
 have Hw:=uX hs {s with items:=G.close s.k,iX:=dU (G.eH (G.close s.k))}
 have hZ:=B2.ob;delta hZ ob E0
 have is:=B2.st i6 Hw
 refine K1 (H7 (I9 (D8 rfl (ob.fld _)) (p1 (D8 rfl (is.ob.fld _)))) (UH (n:=n+1) P (hG.ext E0) w hW is.it Nt.lt Yx λ c3 cI m' E5 CT h3=>?_))
 have B3:=B2.adopt E5 CT h3
 have e0:S.set i {s with items:=G.close s.k,iX:=dU (G.eH (G.close s.k))}=G.TU S i:=(MY hs λ s=>{s with items:=G.close s.k,iX:=dU (G.eH (G.close s.k))}).symm
 rw[e0]at B3 Hw
 have ek:G.Kq S i=G.kb (G.close s.k):=by unfold Gr.Kq;rw[C2,hs];rfl
 have bk:G.KQ (G.TU S i):=hS.mod λ _=>rfl
 clear is ob B2 E5 CT h3 E0 e0 Wu Xm
 generalize j4:({s with items:=G.close s.k,iX:=dU (G.eH (G.close s.k))}:St)=s2 at Hw
 have Xa:s2.moves=[]:=j4▸hm
 clear j4
 let F:PV->List PV:=λ v=>[.ref b,.ref A.a,.ref c3,v]
 refine f_1 (l:=G.kb (G.close s.k)) (f:=λ q=>C0 q.1) (v:=.ref c3) (F:=F) (λ pre _ B9=>∃Ba A',Ba[i]? =some A'∧A'.a=A.a∧BI C8 g c b kF st nm (X++[(c3,.dict ((G.kb (G.close s.k)).map λ p=>(PK.int p.1,.tup (p.2.map C0))) m')]) Ba (pre.foldl (aI i) (G.TU S i)) B9) rfl rfl ?_ ⟨_,_,i6,rfl,B3⟩ ?_ ?_
 ·exact yX (B3.x (.head _)) (G3.mpr λ p hp=>by refine A0 (D2.mp hp) λ q hZ=>?_;clear hp;obtain rfl:=hZ.2;try clear hZ;rfl) (by rw[G2];rfl) (GW Zs (by decide))
 ·intro pre x post v3 eM R hl hQ;intros hQ Ba A' hZ;delta hZ Xn ha B;intro hR
  have hZ:=B.ob;delta hZ ob E0
  have hx:=(P5 hl).2
  have ok:=NN (i:=i) bk λ y hy=>Hr hk.1 y (hl.symm▸H0 _ hy)
  have hZ:=NO pre Hw;delta hZ Wt
  have em:(s2.moves++pre.map λ q=>(q.1,nR (pre.foldl (aI i) (G.TU S i)) q.2)).map (·.1)=pre.map (·.1):=by rw[Xa,X6,G2];rfl
  generalize s2.moves++pre.map (λ q=>(q.1,nR (pre.foldl (aI i) (G.TU S i)) q.2))=mv at Wt em
  have B':BI C8 g c b kF st nm _ Ba (pre.foldl (aI i) (G.TU S i)) eM:=B
  generalize e3:pre.foldl (aI i) (G.TU S i)=S3 at ok Wt B'
  refine zT (J1 rfl (ob.H2 "number_of" rfl rfl) (I9 (I8 rfl rfl (Kr (B.x (.head _)) hx)) (p1 rfl)) (xH (n:=n+1) P (k:=x.2) (sym:=x.1) B' (H8 (ok.len w) (by decide)) λ eX ft B7 w8 _=>?_))
  have Xl:=w8 i A' Xn
  have Ws:=GR Wt x.2 x.1
  have Zt:=B7.st Xl Ws
  refine P2 (x:=.ref A'.mv) (D8 (v:=.ref A'.a) (by rw[ha];rfl) (Zt.ob.fld _)) (P2 rfl ?_)
  show cG _ _ (eX A'.mv)
  rw[Zt.mv]
  have zm:(rM mv).length=pre.length:=by have:=C7 List.length em;rw[A8,A8]at this;rw[rM,A8,this]
  have nx:x.1∉mv.map (·.1):=λ h=>by
   rw[em]at h
   have nd:=Hs w Nt.lt
   rw[hl,C1]at nd
   exact(O8.mp nd).2.2 x.1 h x.1 (.head _) rfl
  refine⟨.int x.1,rfl,EP ..,by rw[zm];exact D1 (P5 hl).1 (A9 Zs (by decide)),λ TW=>?_⟩
  have B8:=B7.put Xl Ws (A':={A' with ep:=TW}) (s':={s2 with moves:=mv++[(x.1,nR (lY S3 x.2 x.1) x.2)]}) (o':=.dict (putK (.int x.1) (C0 (nR (lY S3 x.2 x.1) x.2)) (rM mv)) TW) rfl rfl 3 rfl (by rw[AC (TE nx)];show wD i _ {s2 with moves:=mv++[_]}=_;unfold wD rM;rw[C1];rfl)
  refine s_end (hR .next _ _ trivial ((B8.x (.head _)).trans (B3.x (.head _)).symm) ⟨_,{A' with ep:=TW},uX Xl _,ha,?_⟩)
  rw[K9]
  show BI C8 g c b kF st nm _ _ (aI i (pre.foldl (aI i) (G.TU S i)) x) _
  rw[e3]
  unfold aI
  rw[MY Ws]
  exact B8
 ·intro v eM hQ;intros hQ Ba A' hZ;delta hZ Xn ha B
  exact s_end (q eM Ba (by unfold Gr.ex;rw[ek];exact B.drop))
end
theorem Led.rebase{C8 σ:PH}{L R:List (Addr×PO)}(h:Led C8 σ L R):∃τ,Ext C8 τ∧Led τ σ L R∧∀a o,σ a=some o->a∉(L++R).map (·.1)->τ a=some o:=by
 classical
 refine⟨λ a=>if a∈(L++R).map (·.1)then none else σ a,λ a o e=>(G0 λ m=>?_).trans (h.ext a o e),⟨h.nd,λ p hp=>F7 (J2 hp),h.at_,λ a o e=>?_⟩,λ a o e n=>(G0 n).trans e⟩
 ·refine A0 (D2.mp m) λ p hZ=>?_;generalize hZ.1=hp;clear m;obtain rfl:=hZ.2;try clear hZ
  rw[h.new p hp]at e;cases e
 ·by_cases c:a∈(L++R).map (·.1)
  ·exact absurd ((F7 c).symm.trans e) (λ h=>nomatch h)
  ·exact(G0 c).symm.trans e
theorem Led.out{C8 σ:PH}{L R:List (Addr×PO)}(h:Led C8 σ L R){a:Addr}{o:PO}(e:σ a=some o)(n:∀p∈L++R,p.2≠o):a∉(L++R).map (·.1):=λ m=>by
 refine A0 (D2.mp m) λ p hZ=>?_;generalize hZ.1=hp;clear m;obtain rfl:=hZ.2;try clear hZ
 exact n p hp (G8 ((h.at_ p hp).symm.trans e))
theorem Led.freeze{C8 σ:PH}{L R M:List (Addr×PO)}(h:Led C8 σ L R)(hs:List.Sublist M (L++R)):∃τ,Ext C8 τ∧Led τ σ M []∧∀q∈L++R,q.1∉M.map (·.1)->τ q.1=some q.2:=by
 refine A0 ((h.sub (L':=M) (R':=[]) (by rw[C9];exact hs)).rebase) λ τ hZ=>?_;delta hZ E L' k
 exact⟨τ,E,L',λ q hq n=>k _ _ (h.at_ q hq) (by rw[C9];exact n)⟩
section
variable{W:Wd}{n:Nat}{σ:PH}{ρ:List PV}{r b:V0}{K:Fl->List PV->PH->Prop}{e c:PE}{Q:PV->PH->Prop}
theorem Hf{β:Type}(F:β->List PV)(m:β->Nat)(I:β->PH->Prop)(y:β)(t:β->PH->Bool)(HC:ρ=F y)(h0:I y σ)(ht:∀y σ,I y σ->pt σ (F y) c=some (t y σ))
  (hs:∀y σ (R:Fl->List PV->PH->Prop),I y σ->t y σ=true->(∀fl y' B9,fl.go->m y'<m y->I y' B9->R fl (F y') B9)->S8 W tb n b (F y) σ R)(hk:∀y σ,I y σ->t y σ=false->S8 W tb n r (F y) σ K):S8 W tb n (.cons (.IB c b) r) ρ σ K:=
 PM (I:=λ k ρ σ=>∃y,ρ=F y∧k=m y∧I y σ) (m y) ⟨y,HC,rfl,h0⟩ λ k ρ σ R Vc hR=>by
  intros Vc y hZ;delta hZ e1 e2 i
  subst e1 e2
  refine uT (ht y σ i) ?_
  cases e:t y σ
  ·exact hk y σ i e
  ·exact hs y σ R i e λ fl y' B9 g l i'=>hR fl _ B9 _ g l ⟨y',rfl,rfl,i'⟩
theorem FU{f:String}{as:uM}(h:(wp W tb n e).v ρ σ λ ov B4=>∃fv,dZ tb B4 ov f=some fv∧DO W tb n as ρ B4 λ xs H6=>J9 W n fv (ov::xs) H6 Q):(wp W tb n (.H2 e f as)).v ρ σ Q:=h
end
def Gr.sG(G:Gr):Nat->List St
 |0=>[⟨[0], -1,[],[],[]⟩]
 |t+1=>G.ex (G.sG t) t
structure Gr.IsT(G:Gr)(T:Nat):Prop where
 le:(G.sG T).length<=T
 lt:∀j,j<T->j<(G.sG j).length
theorem Gr.IsT.uniq{G:Gr}{T U:Nat}(h:G.IsT T)(k:G.IsT U):T=U:=
 (qG T U).elim (λ c=>absurd (k.lt T c) (jN.mpr h.le)) λ c=>c.elim id λ c=>absurd (h.lt U c) (jN.mpr k.le)
theorem Rs{G:Gr}{S:List St}(h:G.KQ S)(i:Nat):G.KQ (G.ex S i):=by
 refine NN (h.mod λ _=>rfl) λ q hq=>Hr (k:=(S.getD i ⟨[],0,[],[],[]⟩).k) ?_ q hq
 rw[C2]
 cases e:S[i]? with
 |none=>exact⟨.nil,λ _ h=>nomatch h⟩
 |some s=>exact(h.ks s (B5 e)).1
theorem OD{G:Gr}(w:G.Wf):∀t,G.KQ (G.sG t)
 |0=>⟨.cons (λ _ h=>nomatch h) .nil,λ s hs=>by
   rewrite[D5.mp hs]
   exact⟨⟨.cons (λ _ h=>nomatch h) .nil,λ m hm=>by
    rewrite[D5.mp hm]
    exact(D3.mp (Gr.yQ (i:=0) w.pos)).1⟩,.cons (λ _ h=>nomatch h) .nil,sN _ _⟩⟩
 |t+1=>Rs (OD w t) t
def lO(i:Nat)(S:List St):Prop:=∀j s,i<=j->S[j]? =some s->s.moves=[]
theorem lO.mod{i k:Nat}{S:List St}{f:St->St}(h:lO i S)(hk:k<i):lO i (S.modify k f):=λ j s hj e=>by
 refine h j s hj ?_
 rw[<-e,aZ]
 cases S[j]? with
 |none=>rfl
 |some x=>exact C7 some (G0 (U6 (D1 hk hj))).symm
theorem lO.num{i:Nat}{S:List St}{k:List Nat}{y:Int}(h:lO i S):lO i (lY S k y):=by
 unfold lY
 split
 ·exact h
 ·intro j s hj e
  rw[List.getElem?_append]at e
  split at e
  ·exact h j s hj e
  ·exact D5.mp (B5 e)▸rfl
theorem lO.j3{i k:Nat}(hk:k<i):∀{l:List (Nat×List Nat)} {S:List St},lO i S->lO i (l.foldl (aI k) S)
 |[],_,h=>h
 |q::l,S,h=>lO.j3 hk (l:=l) (h.num.mod hk)
theorem wE(G:Gr):∀t,lO t (G.sG t)
 |0=>λ j s _ e=>D5.mp (B5 e)▸rfl
 |t+1=>lO.j3 (K5 t) (lO.mod (λ j s hj e=>wE G t j s (hY hj) e) (K5 t))
structure KS(σ:PH)(a g t:Addr)(As:List SA)(S:List St):Prop where
 ob:aT σ a 373 [("grammar",.ref g),("states",.ref t)]
 sl:σ t=some (.list (refs (As.map SA.a)))
 len:As.length=S.length
 st:∀i A s,As[i]? =some A->S[i]? =some s->DN σ i A s
theorem KS.ext{σ B9:PH}(E:Ext σ B9){a g t:Addr}{As:List SA}{S:List St}(h:KS σ a g t As S):KS B9 a g t As S:=⟨h.ob.ext E,E _ _ h.sl,h.len,λ i A s x y=>(h.st i A s x y).ext E⟩
section
variable{W:Wd}(P:dR W){n:Nat}{σ C8:PH}{g:Addr}{Q:PV->PH->Prop}{G:Gr}(w:G.Wf)
include P w
theorem UN(hG:qA σ g G)(q:∀b τ c kF st nm B9,Ext σ τ->wK τ c g G->BI τ g c b kF st nm [] [] [] B9->Q (.ref b) B9):J9 W (n+5) (.ref 415) [.ref g] σ Q:=by
 refine vR P 5 27 1 (r:=oR) rfl rfl (O5:=[.ref g]) (λ _=>rfl) (λ _=>rfl) λ x dx aL L1=>?_
 refine Q9 rfl (H7 rfl (ZZ (n:=n) P (hG.ext L1.ext) w λ c W9 E2 hC=>?_))
 refine A0 ((L1.grow E2).rebase) λ τ hZ=>?_;delta hZ E L2 gB
 have bo:wK τ c g G:=by
  intros hC a hZ;refine A0 hZ.1 λ cy P4=>?_;delta P4 h1 h2;delta hZ hZ h3
  have no:∀{o:PO},(∀y,o≠.inst 415 y)->(∀fs,o≠.attrs 415 fs)->∀p∈[(x,PO.inst 415 dx),(dx,.attrs 415 [("grammar",.ref g)])]++[],p.2≠o:=λ i j p hp e=>by
   cases hp with
   |head=>exact i _ e.symm
   |tail _ hp=>cases hp with
    |head=>exact j _ e.symm
    |tail _ hp=>cases hp
  exact⟨a,⟨cy,gB _ _ h1 (Led.out (L1.grow E2) h1 (no (λ _ e=>by cases e) λ _ e=>by cases e)),gB _ _ h2 (Led.out (L1.grow E2) h2 (no (λ _ e=>by cases e) λ _ e=>by cases e))⟩,gB _ _ h3 (Led.out (L1.grow E2) h3 (no (λ _ e=>by cases e) λ _ e=>by cases e))⟩
 exact aE L2 rfl (C3 rfl) λ Y9 L3=>Q9 rfl (K7 L3 rfl λ c1 bM L4=>aE L4 rfl (C3 rfl) λ cI L5=>Q9 rfl (dS L5 λ c2 eM L6=>aE L6 rfl (C3 rfl) λ eX L7=>s_end ⟨rfl,q x τ c dx c1 c2 eX E bo ⟨0,rfl,L7⟩⟩))
theorem Fx(hW:W.Ok){c b kF st nm:Addr}(hG:qA C8 g G)(hC:wK C8 c g G)(hB:BI C8 g c b kF st nm [] [] [] σ)(q:∀a T As B9,Ext C8 B9->G.IsT T->KS B9 a g st As (G.sG T)->Q (.ref a) B9):J9 W (n+6) (.ref 412) [.ref b] σ Q:=by
 refine P.fn nK 30 rfl (ρ:=[.ref b,.M7]) rfl ?_
 have hZ:=hB.ob;delta hZ ob E0
 have e0:[C0 (G.off 0+0)]=[0].map C0:=rfl
 refine N4 (T0 rfl (ob.H2 "number_of" rfl rfl) (F9 (dM (F9 (J1 (D8 rfl (ob.fld _)) ((hG.ext E0).H2 "item" 157 (by simp)) rfl (NX (n:=n+4) P (hG.ext E0) (d:=0) w.pos (M0 (F9 (P2 (x:=.int (-1)) rfl (M0 (xH (n:=n+2) P (k:=[0]) (sym:= -1) hB (by decide) λ aL fy B1 _ _=>?_)))))))))))
 let F:Nat->List PV:=λ t=>[.ref b,C0 t]
 refine P3 rfl (Hf F (λ t=>32768 - t) (λ t B9=>(∃As,BI C8 g c b kF st nm [] As (G.sG t) B9)∧∀j,j<t->j<(G.sG j).length) 0 (λ t _=>decide ((t:Int)<((G.sG t).length:Int))) rfl ⟨⟨_,B1⟩,λ _ h=>absurd h (Z9 _)⟩ ?_ ?_ ?_)
 ·intro t B9 hQ;refine A0 hQ.1 λ As B=>?_;try clear hQ
  have hZ:=B.ob;delta hZ ob hZ h1 hl
  exact N3 rfl (V8 (D8 rfl (ob.fld _)) (len_list h1 (by rw[refs,A8,A8,hl]))) rfl
 ·intro t B9 R hQ;refine A0 hQ.1 λ As B=>?_;delta hQ hQ lt;intro ht hR
  have hZ:=B.ob;delta hZ ob hZ h1 hl
  have ht:=T7.mp (D0 ht)
  have ok:=OD w t
  have hA:=C4 (hl.symm▸ht:t<As.length)
  have hs:=C4 ht
  refine N4 (J1 rfl (ob.H2 "expand" rfl rfl) (p1 (I8 (D8 rfl (ob.fld _)) rfl (I0 h1 (V5 (V5 hA))))) (ZV (n:=n) P hG w hC hW B ok hA hs (wE G t t _ (D7 t) hs) λ W9 fw B2=>?_))
  exact P3 (x:=C0 (t+1)) rfl (s_end (hR .next (t+1) W9 trivial (Nat.sub_lt_sub_left (D1 ht (ok.len w)) (K5 t)) ⟨⟨_,B2⟩,λ j hj=>(Y5.mp hj).elim (lt j) λ e=>e▸ht⟩))
 ·intro t B9 hQ;refine A0 hQ.1 λ As B=>?_;delta hQ hQ lt;intro ht
  have hZ:=B.ob;delta hZ ob E1 h1 hl
  refine W3 (H7 (I9 (D8 rfl (ob.fld _)) (p1 (D8 rfl (ob.fld _)))) (tW P kY 25 4 rfl rfl (O5:=[.ref g,.ref st]) (λ _=>rfl) (λ _=>rfl) λ x W9 E2 _ O=>?_))
  refine q x t As W9 (E1.trans E2) ⟨jO λ h=>K6 ht (T7.mpr h),lt⟩ ⟨O,E2 _ _ h1,hl,λ i A s x y=>(B.st x y).ext E2⟩
theorem RX(hW:W.Ok)(hG:qA σ g G)(q:∀a T t As B9,Ext σ B9->G.IsT T->KS B9 a g t As (G.sG T)->Q (.ref a) B9):J9 W (n+7) (.ref 426) [.ref g] σ Q:=
 P.fn PY 31 rfl (ρ:=[.ref g]) rfl (W3 (FU (H7 rfl (UN (n:=n+1) P w hG λ b τ c kF st nm aL E hC B=>⟨.ref 412,B.ob.1.H2 "built" rfl rfl,M0 (Fx (n:=n) P w hW (hG.ext E) hC B λ a T As B9 E' hT hA=>q a T st As B9 (E.trans E') hT hA)⟩))))
end
def bl(l:List Nat)(a b:Nat):Prop:=(l.getD a 0).testBit b=true
theorem uS{l:List Nat}{m o a b:Nat}(ho:o<l.length):bl (cU l m o) a b↔bl l a b∨(And (a=o) (And (bl l a m) (bl l m b))):=by
 have e:bl l o m↔l.getD o 0/2^m%2=1:=by unfold bl;rw[Nat.testBit_eq_decide_div_mod_eq];exact decide_eq_true_iff
 unfold cU
 split
 ·rename_i c
  by_cases d:a=o
  ·subst d
   have:(l.set a (l.getD a 0|||l.getD m 0)).getD a 0=l.getD a 0|||l.getD m 0:=by rw[C2,aY,F7 rfl,F7 ho];rfl
   unfold bl at*
   rw[this,nV,Bool.or_eq_true]
   exact or_congr_right ⟨λ h=>⟨rfl,e.mpr c,h⟩,λ h=>h.2.2⟩
  ·have:(l.set o (l.getD o 0|||l.getD m 0)).getD a 0=l.getD a 0:=by rw[C2,aY,G0 (hM d),C2]
   unfold bl
   rw[this]
   exact⟨.inl,λ h=>h.elim id λ h=>absurd h.1 d⟩
 ·rename_i c
  exact⟨.inl,λ h=>h.elim id λ⟨h1,h2,_⟩=>absurd (e.mp (h1▸h2)) c⟩
theorem Gu{m a b:Nat}:∀(os l:List Nat),(∀o∈os,o<l.length)->(bl (os.foldl (λ l o=>cU l m o) l) a b↔bl l a b∨(And (a∈os) (And (bl l a m) (bl l m b))))
 |[],l,h=>⟨.inl,λ h=>h.elim id λ h=>nomatch h.1⟩
 |o::os,l,h=>by
  have ho:=h o (.head _)
  have e1:bl (cU l m o) a m↔bl l a m:=(uS ho).trans ⟨λ h=>h.elim id (·.2.1),.inl⟩
  have e2:bl (cU l m o) m b↔bl l m b:=(uS ho).trans ⟨λ h=>h.elim id (·.2.2),.inl⟩
  rw[J0,Gu os _ (λ x hx=>by rw[zK];exact h x (.tail _ hx)),e1,e2,uS ho,F8,or_assoc,<-or_and_right]
theorem uR{l:List Nat}{m a b:Nat}(ha:a<l.length):bl (qJ l m) a b↔bl l a b∨(And (bl l a m) (bl l m b)):=
 (Gu _ l λ o h=>N1.mp h).trans (or_congr_right (and_iff_right (N1.mpr ha)))
def Cl(n m:Nat)(l:List Nat):Prop:=l.length=n∧∀j a b,j<m->a<n->bl l a j->bl l j b->bl l a b
theorem Cl.row{n m:Nat}{l:List Nat}(h:Cl n m l)(hm:m<n):Cl n (m+1) (qJ l m):=by
 generalize h=hZ;try clear h;delta hZ hl h
 refine⟨(dT ..).trans hl,λ j a b hj ha h1 h2=>?_⟩
 subst hl
 have Qx:j<l.length:=D1 hj hm
 refine(uR ha).mpr ?_
 rcases Y5.mp hj with hj|rfl
 ·rcases (uR ha).mp h1 with h1|⟨h1,h3⟩<;>rcases (uR Qx).mp h2 with h2|⟨h2,h4⟩
  ·exact .inl (h j a b hj ha h1 h2)
  ·exact .inr ⟨h j a m hj ha h1 h2,h4⟩
  ·exact .inr ⟨h1,h j m b hj hm h3 h2⟩
  ·exact .inr ⟨h1,h4⟩
 ·exact .inr ⟨((uR ha).mp h1).elim id (·.1),((uR Qx).mp h2).elim id (·.2)⟩
theorem Gv{n:Nat}:∀(k m:Nat) (l:List Nat),m+k=n->Cl n m l->Cl n n ((List.range' m k).foldl qJ l)
 |0,m,l,e,h=>by rw[<-e]at*;exact h
 |k+1,m,l,e,h=>by
  rw[List.range'_succ,J0]
  exact Gv k (m+1) _ (by lia) (h.row (by lia))
theorem Jf(l:List Nat):Cl l.length l.length (Td l):=by
 show Cl _ _ ((List.range l.length).foldl qJ l)
 rw[List.range_eq_range']
 exact Gv l.length 0 l (Y4 _) ⟨rfl,λ j a b h=>absurd h (Z9 j)⟩
theorem PB{a b:Nat}:∀(ms l:List Nat),a<l.length->bl l a b->bl (ms.foldl qJ l) a b
 |[],_,_,h=>h
 |m::ms,l,ha,h=>PB ms (qJ l m) ((dT m _ l).symm▸ha) ((uR ha).mpr (.inl h))
theorem Dp{a b:Nat}{l:List Nat}(r:Rl)(h:bl l a b):bl (gG l r) a b:=by
 unfold gG
 split
 ·exact h
 ·unfold bl at*
  rw[C2,aY]
  split
  ·rename_i e
   subst e
   split
   ·show(l.getD r.left 0|||_).testBit b=true
    rw[nV,h];rfl
   ·rename_i c
    rw[C2,jE (jO c)]at h
    exact h
  ·rw[<-C2];exact h
theorem YC{r:Rl}{s:Nat}{q:List Nat}(e:r.right=s::q):∀{rs l:List _},r.left<l.length->(r∈rs∨bl l r.left s)->bl (rs.foldl gG l) r.left s
 |[],l,_,h=>h.elim (λ h=>nomatch h) id
 |x::rs,l,hl,h=>by
  refine YC e (rs:=rs) ((rS [x] l).symm▸hl) ?_
  rcases h with h|h
  ·rcases F8.mp h with rfl|h
   ·refine .inr ?_
    unfold gG bl
    rw[e]
    show((l.set r.left _).getD r.left 0).testBit s=true
    rw[C2,aY,F7 rfl,F7 hl]
    show(l.getD r.left 0|||2^s).testBit s=true
    rw[nV,Nat.testBit_two_pow_self,Bool.or_true]
   ·exact .inl h
  ·exact .inr (Dp x h)
def Gr.Wa(G:Gr)(k:List Nat)(y:Nat):Prop:=∃m∈k,∃s,G.cM m=some s∧(y=s∨bl G.jX s y)
theorem zG{G:Gr}{y:Nat}:∀(k:List Nat) (z:Nat),(k.foldl G.wN z).testBit y=true↔z.testBit y=true∨G.Wa k y
 |[],z=>⟨.inl,λ h=>h.elim id λ⟨_,h,_⟩=>nomatch h⟩
 |m::k,z=>by
  rw[J0,zG k]
  unfold Gr.wN
  cases e:G.cM m with
  |none=>exact⟨λ h=>h.imp id λ⟨x,hx,h⟩=>⟨x,.tail _ hx,h⟩,λ h=>h.imp id λ⟨x,hx,s,e',h⟩=>⟨x,(F8.mp hx).resolve_left (λ q=>by rw[q,e]at e';cases e'),s,e',h⟩⟩
  |some s=>
   simp only[nV,Bool.or_eq_true,Nat.testBit_two_pow,P8]
   constructor
   ·rintro (((h|h)|h)|⟨x,hx,h⟩)
    ·exact .inl h
    ·exact .inr ⟨m,.head _,s,e,.inl h.symm⟩
    ·exact .inr ⟨m,.head _,s,e,.inr h⟩
    ·exact .inr ⟨x,.tail _ hx,h⟩
   ·rintro (h|⟨x,hx,t,e',h⟩)
    ·exact .inl (.inl (.inl h))
    ·rcases F8.mp hx with rfl|hx
     ·rw[e]at e';cases e'
      exact h.elim (λ h=>.inl (.inl (.inr h.symm))) λ h=>.inl (.inr h)
     ·exact .inr ⟨x,hx,t,e',h⟩
theorem OV{G:Gr}{k:List Nat}{y:Nat}:y∈X7 (G.wanted k) G.names.length↔And (y<G.names.length) (G.Wa k y):=by
 have:=zG (G:=G) (y:=y) k 0
 rw[Nat.zero_testBit,Nat.testBit_eq_decide_div_mod_eq,decide_eq_true_iff]at this
 unfold X7
 rw[J5,N1,jM]
 exact and_congr_right λ _=>this.trans ⟨λ h=>h.elim (λ h=>nomatch h) id,.inr⟩
theorem wA{G:Gr}{k:List Nat}{m:Nat}:m∈G.close k↔m∈k∨m∈G.HW k:=by
 unfold Gr.close
 rw[G9,(N8 _).mem_iff,(N8 _).mem_iff]
theorem ZK{G:Gr}(w:G.Wf){k:List Nat}{m y:Nat}(hm:m∈G.close k)(h:G.cM m=some y):G.Wa k y:=by
 rcases wA.mp hm with hm|hm
 ·exact⟨m,hm,y,h,.inl rfl⟩
 ·refine A0 (D2.mp (J5.mp hm).1) λ i hZ=>?_;generalize hZ.1=hi;clear hm;obtain rfl:=hZ.2;try clear hZ
  refine A0 (P6.mp hi) λ x hZ=>?_;delta hZ hx hi
  have hZ:=OV.mp hx;generalize hZ.1=w6;refine A0 hZ.2 λ m0 Q0=>?_;generalize Q0.1=z8;refine A0 Q0.2 λ s0 fU=>?_;delta fU e0 h0;try clear Q0;try clear hZ
  have hZ:=vN hi;generalize hZ.1=XS;refine A0 hZ.2 λ r Q0=>?_;delta Q0 er el;try clear hZ
  have it:G.It (G.off i) i r 0:=⟨er,K3 _,rfl⟩
  have hZ:=it.I;delta hZ i1 i2 i3
  unfold Gr.cM at h
  rw[i2,i3]at h
  have hr:=B5 er
  have hb:bl G.jX x y:=by
   clear e0;cases e:r.right with
   |nil=>rw[e]at h;cases h
   |cons s q=>
    rw[e]at h;cases h
    have:bl G.zV r.left y:=YC e (l:=List.replicate G.names.length 0) (K8.symm▸w.left r hr) (.inl hr)
    exact el▸PB _ _ ((rS _ _).trans K8▸w.left r hr) this
  refine⟨m0,z8,s0,e0,.inr ?_⟩
  clear e0;rcases h0 with rfl|h0
  ·exact hb
  ·have fl:G.zV.length=G.names.length:=(rS _ _).trans K8
   have cl:=Jf G.zV
   by_cases c:s0<G.names.length
   ·exact cl.2 x s0 y (fl▸w6) (fl▸c) h0 hb
   ·unfold bl at h0
    rw[C2,jE (by rw[G.BP];exact jO c)]at h0
    exact absurd h0 (by rw[show(none:Option Nat).getD 0=0 from rfl,Nat.zero_testBit];exact C5)
theorem ZL{G:Gr}{k:List Nat}{y i:Nat}(hy:y<G.names.length)(h:G.Wa k y)(hi:i∈G.of y):G.off i∈G.close k:=by
 refine wA.mpr (Classical.byCases (p:=G.off i∈k) .inl λ c=>.inr ?_)
 exact J5.mpr ⟨J2 (P6.mpr ⟨y,OV.mpr ⟨hy,h⟩,hi⟩),by rw[J8 c];rfl⟩
structure Gr.Dn(G:Gr)(S:List St)(s:St):Prop where
 it:s.items=G.close s.k
 rd:s.iX=dU (G.eH s.items)
 mv:s.moves=(G.kb s.items).map λ q=>(q.1,nR S q.2)
 kn:∀q∈G.kb s.items,q.2∈S.map (·.k)
theorem Gr.Dn.mono{G:Gr}{S S':List St}{s:St}(p:S.map (·.k)<+:S'.map (·.k))(h:G.Dn S s):G.Dn S' s:=
 ⟨h.it,h.rd,h.mv.trans (P1 λ q hq=>by rw[JN p (h.kn q hq)]),λ q hq=>p.subset (h.kn q hq)⟩
theorem RC{i j:Nat}(ne:i≠j){s:St}:∀{l:List (Nat×List Nat)} {S:List St},S[j]? =some s->(l.foldl (aI i) S)[j]? =some s
 |[],_,h=>h
 |q::l,S,h=>RC ne (l:=l) (by unfold aI;rw[aZ,GR h];exact C7 some (G0 ne))
theorem Ru{G:Gr}{S:List St}{i:Nat}{s:St}(h:S[i]? =some s)(hm:s.moves=[]):(∃s',(G.ex S i)[i]? =some s'∧G.Dn (G.ex S i) s')∧S.map (·.k)<+:(G.ex S i).map (·.k):=by
 have h0:(G.TU S i)[i]? =some {s with items:=G.close s.k,iX:=dU (G.eH (G.close s.k))}:=by unfold Gr.TU;rw[MY h];exact uX h _
 have hZ:=NO (G.Kq S i) h0;delta hZ h1 h2 h3
 have ek:G.Kq S i=G.kb (G.close s.k):=by unfold Gr.Kq;rw[C2,h];rfl
 refine⟨⟨_,h1,rfl,rfl,?_,?_⟩,?_⟩
 ·show s.moves++(G.Kq S i).map (λ q=>(q.1,nR (G.ex S i) q.2))=(G.kb (G.close s.k)).map _
  rw[hm,<-ek];rfl
 ·rw[<-ek];exact h3
 ·rw[show(G.TU S i).map (·.k)=S.map (·.k)from QE λ _=>rfl]at h2
  exact h2
theorem Ac{G:Gr}:∀t,(∀j,j<t->j<(G.sG j).length)->∀i s,i<t->(G.sG t)[i]? =some s->G.Dn (G.sG t) s
 |0,_,i,_,h,_=>absurd h (Z9 i)
 |t+1,hl,i,s,hi,e=>by
  have ht:=C4 (hl t (K5 t))
  have hZ:=Ru (G:=G) ht (wE G t t _ (D7 t) ht);refine A0 hZ.1 λ s' Q0=>?_;delta Q0 h1 h2;delta hZ hZ h3
  clear ht;rcases Y5.mp hi with hi|rfl
  ·have hb:i<(G.sG t).length:=nN hi (hl t (K5 t))
   have e0:=C4 hb
   have e1:(G.sG (t+1))[i]? =some (G.sG t)[i]:=RC (Nat.ne_of_gt hi) (by unfold Gr.TU;rw[aZ,e0];exact C7 some (G0 (Nat.ne_of_gt hi)))
   rw[e1]at e
   cases e
   exact(Ac t (λ j hj=>hl j (dJ hj)) i _ hi e0).mono h3
  ·have e':(G.ex (G.sG i) i)[i]? =some s:=e
   rw[h1]at e'
   clear e h1 h3 hi hl;cases e'
   exact h2
structure yL(G:Gr)(S:List St):Prop where
 ks:∀s∈S,G.Ks s.k
 it:∀s∈S,s.items=G.close s.k
 rd:∀s∈S,s.iX=dU (G.eH s.items)
 nd:∀s∈S,(s.moves.map (·.1)).Nodup
 mv:∀s∈S,∀p∈s.moves,p.1<G.names.length∧p.2<S.length∧∃m∈s.items,G.cM m=some p.1
 go:∀s∈S,∀m∈s.items,∀y,G.cM m=some y->∃j t,(y,j)∈s.moves∧S[j]? =some t∧m+1∈t.items
 cl:∀s∈S,∀m∈s.items,∀y,G.cM m=some y->∀i∈G.of y,G.off i∈s.items
 len:S.length<=32768
 kp:∀s∈S,Ol s.k
theorem yL.lt{G:Gr}{S:List St}(h:yL G S){s:St}(hs:s∈S):∀m∈s.items,m<G.aS.length:=by rw[h.it s hs];exact(h.ks s hs).close.lt
theorem WU{S:List St}{k:List Nat}(h:k∈S.map (·.k)):nR S k<S.length∧∃t,S[nR S k]? =some t∧t.k=k:=by
 have h1:=Y6.mpr h
 have h2:=nX h1
 rw[List.getElem_map]at h2
 rw[A8]at h1
 exact⟨h1,_,C4 h1,h2⟩
theorem uJ{G:Gr}(w:G.Wf){T:Nat}(h:G.IsT T):yL G (G.sG T):=by
 have ok:=OD w T
 have dn:∀s∈G.sG T,G.Dn (G.sG T) s:=λ s hs=>by
  refine A0 (List.mem_iff_getElem.mp hs) λ i hZ=>?_;intros hZ hi e
  exact Ac T h.lt i s (D1 hi h.le) (e▸C4 hi)
 have lt:∀s∈G.sG T,∀m∈s.items,m<G.aS.length:=λ s hs=>by rw[(dn s hs).it];exact(ok.ks s hs).1.close.lt
 have mm:∀s∈G.sG T,∀p,p∈s.moves↔∃y,And (y∈G.ks s.items) ((y,nR (G.sG T) (dU (G.eC s.items y)))=p):=λ s hs p=>by
  rw[(dn s hs).mv]
  unfold Gr.kb
  rw[G2,D2]
  exact exists_congr λ y=>and_congr_left λ _=>(N8 _).mem_iff
 have mk:∀s∈G.sG T,∀y∈G.ks s.items,dU (G.eC s.items y)∈(G.sG T).map (·.k):=λ s hs y hy=>(dn s hs).kn (y,_) (J2 ((N8 _).mem_iff.mpr hy))
 refine⟨λ s hs=>(ok.ks s hs).1,λ s hs=>(dn s hs).it,λ s hs=>(dn s hs).rd,λ s hs=>?_,λ s hs p hp=>?_,λ s hs m hm y e=>?_,λ s hs m hm y e i hi=>?_,ok.len w,λ s hs=>(ok.ks s hs).2⟩
 ·rw[(dn s hs).mv,G2]
  exact Hs w (lt s hs)
 ·refine A0 ((mm s hs p).mp hp) λ y hZ=>?_;generalize hZ.1=hy;clear hp;obtain rfl:=hZ.2;try clear hZ
  exact⟨(lG w (lt s hs) ⟨.nil,λ _ h=>nomatch h⟩).2 y hy,(WU (mk s hs y hy)).1,(ND hy).resolve_left λ h=>nomatch h⟩
 ·have hy:y∈G.ks s.items:=NE e (.inl hm)
  have hZ:=WU (mk s hs y hy);generalize hZ.1=h1;refine A0 hZ.2 λ t Q0=>?_;delta Q0 h2 h3;try clear hZ
  refine⟨_,t,(mm s hs _).mpr ⟨y,hy,rfl⟩,h2,?_⟩
  rw[(dn t (B5 h2)).it,h3]
  exact wA.mpr (.inl ((N8 _).mem_iff.mpr (J2 (J5.mpr ⟨hm,by rw[e];exact O2 _⟩))))
 ·have:=ZK w ((dn s hs).it▸hm) e
  rw[(dn s hs).it]
  exact ZL (HV w (lt s hs m hm) e) this hi
abbrev CQ:SA:=⟨0,0,0,0,0,0⟩
abbrev aB:St:=⟨[],0,[],[],[]⟩
section
variable{σ B9:PH}{a g t:Addr}{As:List SA}{S:List St}(h:KS σ a g t As S)
include h
theorem KS.at{i:Nat}(hi:i<S.length):DN σ i (As.getD i CQ) (S.getD i aB):=h.st i _ _ (W5 CQ (h.len.symm▸hi)) (W5 aB hi)
theorem KS.it(z:S.length<=32768):mF σ (.ref t) ((List.range S.length).map λ i=>.ref (As.getD i CQ).a):=by
 have e:refs (As.map SA.a)=(List.range S.length).map λ i=>.ref (As.getD i CQ).a:=by
  conv=>lhs;rw[zX CQ As]
  rw[refs,G2,G2,h.len];rfl
 exact V6 (e▸h.sl) (by rw[A8,D9];exact A9 z (by decide))
theorem KS.sub{i:Nat}(hi:i<S.length):gE σ (.ref t) (C0 i)=some (.ref (As.getD i CQ).a):=I0 h.sl (V5 (V5 (W5 CQ (h.len.symm▸hi))))
end
theorem yL.Ko{G:Gr}{S:List St}(h:yL G S)(w:G.Wf){s:St}(hs:s∈S):(s.moves.map (·.1)).length<=10:=A9 (Y3 (h.nd s hs) λ x hx=>by refine A0 (D2.mp hx) λ p hZ=>?_;generalize hZ.1=hp;clear hx;obtain rfl:=hZ.2;try clear hZ;exact(h.mv s hs p hp).1) w.names
theorem WX{a:Bool}(h:(!a)=true):a=false:=by cases a;rfl;cases h
theorem Qc{a:Bool}(h:(!a)=false):a=true:=by cases a;cases h;rfl
theorem vC{k j:PK}{x:PV}{es:List (PK×PV)}:(putK k x es).lookup j=if j=k then some x else es.lookup j:=by
 induction es with
 |nil=>
  show List.lookup j [(k,x)]=_
  rw[I1]
  by_cases c:j=k
  ·rw[F7 c,jM.mpr c]
  ·rw[G0 c,O0.mpr c]
 |cons p l ih=>
  rw[lT]
  by_cases e:p.1=k
  ·rw[F7 e,I1,I1,e]
   by_cases c:j=k
   ·rw[F7 c,jM.mpr c]
   ·rw[G0 c,O0.mpr c]
  ·rw[G0 e,I1,I1,ih]
   by_cases c:j=p.1
   ·rw[jM.mpr c];exact(G0 (c▸e)).symm
   ·rw[O0.mpr c]
theorem tM{k:PK}{x:PV}{es:List (PK×PV)}:(putK k x es).length<=es.length+1:=by
 induction es with
 |nil=>exact D7 _
 |cons p l ih=>
  rw[lT]
  split
  ·exact cO _
  ·exact O1 ih
theorem tN{q:PK->Bool}{k:PK}{x:PV}{es:List (PK×PV)}(h:es.all (λ p=>q p.1)=true)(hk:q k=true):(putK k x es).all (λ p=>q p.1)=true:=by
 induction es with
 |nil=>exact(Bool.and_true _).trans hk
 |cons p l ih=>
  have hZ:=F0.mp h;delta hZ h1 h2
  rw[lT]
  split
  ·exact F0.mpr ⟨hk,h2⟩
  ·exact F0.mpr ⟨h1,ih h2⟩
abbrev k2(i y:Nat):PK:=MN [i,y]
abbrev Je(p:Nat×Nat):List PV:=[C0 p.1,C0 p.2]
structure Bo(G:Gr)(S:List St)(D:Nat->Nat->Prop)(b:Nat)(tr:List (Nat×Nat))(es:List (PK×PV)):Prop where
 mem:∀p∈tr,p.1<S.length∧¬p.2<G.tc∧p.2∈(S.getD p.1 aB).moves.map (·.1)
 ix:∀i y,D i y->y∈(S.getD i aB).moves.map (·.1)->¬y<G.tc->∃j,j<tr.length∧es.lookup (k2 i y)=some (C0 j)
 kt:es.all (λ p=>jT p.1)=true
 el:es.length<=tr.length
 len:tr.length<=b
theorem Bo.add{G:Gr}{S:List St}{D D':Nat->Nat->Prop}{b:Nat}{tr:List (Nat×Nat)}{es:List (PK×PV)}(h:Bo G S D b tr es){i y:Nat}(hi:i<S.length)(hy:y∈(S.getD i aB).moves.map (·.1))(ht:¬y<G.tc)
  (hD:∀j z,D' j z->D j z∨(j=i∧z=y)):Bo G S D' (b+1) (tr++[(i,y)]) (putK (k2 i y) (C0 tr.length) es):=by
 have el:(tr++[(i,y)]).length=tr.length+1:=B0
 refine⟨T8 h.mem ⟨hi,ht,hy⟩,λ j z d hz nz=>?_,tN h.kt rfl,?_,?_⟩
 ·rw[vC,el]
  split
  ·exact⟨_,K5 _,rfl⟩
  ·rename_i c
   refine A0 (h.ix j z ((hD j z d).resolve_right λ e=>c (by rw[e.1,e.2])) hz nz) λ k hZ=>?_;delta hZ h1 h2
   exact⟨k,dJ h1,h2⟩
 ·rw[el];exact A9 tM (O1 h.el)
 ·rw[el];exact O1 h.len
theorem Bo.skip{G:Gr}{S:List St}{D D':Nat->Nat->Prop}{b b':Nat}{tr:List (Nat×Nat)}{es:List (PK×PV)}(h:Bo G S D b tr es)(hb:b<=b')(hD:∀j z,D' j z->z∈(S.getD j aB).moves.map (·.1)->¬z<G.tc->D j z):Bo G S D' b' tr es:=
 ⟨h.mem,λ j z d hz nz=>h.ix j z (hD j z d hz nz) hz nz,h.kt,h.el,A9 h.len hb⟩
theorem Led.self{C8 σ:PH}{L R:List (Addr×PO)}{x C dx:Addr}{fs:List (String×PV)}(h:Led C8 σ ((x,.inst C dx)::(dx,.attrs C fs)::L) R){f:String}{v:PV}(e:fs.lookup f=some v):fld σ (.ref x) f=some v:=((h.obj 0 1 rfl rfl).fld f).trans e
section
variable{W:Wd}{n:Nat}{σ:PH}{ρ:List PV}{B:Bool->PH->Prop}{e:PE}
theorem PD{f:String}{as:uM}(h:(wp W tb n (.H2 e f as)).v ρ σ λ x B9=>∃b,zJ B9 x=some b∧B b B9):(wp W tb n (.H2 e f as)).t ρ σ B:=h
end
theorem iH{W:Wd}{n:Nat}{σ:PH}{ρ:List PV}{r b b':V0}{K:Fl->List PV->PH->Prop}{e:PE}(h:(wp W tb n e).t ρ σ λ t B4=>(t=true->S8 W tb n b ρ B4 (zQ W n r K))∧(t=false->S8 W tb n b' ρ B4 (zQ W n r K))):S8 W tb n (.cons (.ite e b b') r) ρ σ K:=by
 refine Cc (Eq.mp (C7 _ ?_) h)
 funext t B4
 refine propext ⟨λ h=>?_,λ h=>⟨λ e=>?_,λ e=>?_⟩⟩
 ·cases t
  ·exact h.2 rfl
  ·exact h.1 rfl
 ·subst e;exact h
 ·subst e;exact h
section
variable{W:Wd}(P:dR W){n:Nat}{σ C8:PH}{g a t x dx ta ia:Addr}{As:List SA}{S:List St}{G:Gr}{X R:List (Addr×PO)}{Q:PV->PH->Prop}(w:G.Wf)(hG:qA C8 g G)(hA:KS C8 a g t As S)(au:yL G S){fs:List (String×PV)}
include P w hG hA au
theorem Fo(hW:W.Ok)(f1:fs.lookup "automaton"=some (.ref a))(f2:fs.lookup "transitions"=some (.ref ta))(f3:fs.lookup "index"=some (.ref ia))(L:Led C8 σ ((x,.inst 490 dx)::(dx,.attrs 490 fs)::(ta,.list [])::(ia,.dict [] 0)::X) R)
  (q:∀tr es m B9,Bo G S (λ i _=>i<S.length) 327680 tr es->Led C8 B9 ((x,.inst 490 dx)::(dx,.attrs 490 fs)::(ta,.list (tr.map λ p=>.tup (Je p)))::(ia,.dict es m)::X) R->Q .none B9):J9 W (n+2) (.ref 452) [.ref x] σ Q:=by
 refine P.fn aM 34 rfl (ρ:=[.ref x,.M7,.M7,.M7]) rfl ?_
 let LA:List (Nat×Nat)->List (PK×PV)->Nat->List (Addr×PO):=λ tr es m=>(x,.inst 490 dx)::(dx,.attrs 490 fs)::(ta,.list (tr.map λ p=>.tup (Je p)))::(ia,.dict es m)::X
 let J:(Nat->Nat->Prop)->Nat->List (Addr×PO)->PH->Prop:=λ D b Y B9=>∃tr es m,Bo G S D b tr es∧Led C8 B9 (LA tr es m++Y) R
 let F:PV->PV->List PV:=λ y z=>[.ref x,.ref g,y,z]
 have Xn:=λ{B9} (E:Ext C8 B9)=>hA.ext E
 refine P3 (D8 (D8 rfl (L.self f1)) ((hA.ext L.ext).ob.fld _)) (f_2 (F:=F) (v:=.ref t) (λ pre _ _ B9=>J (λ i _=>i<pre.length) (10*pre.length) [] B9) rfl (D8 (D8 rfl (L.self f1)) ((hA.ext L.ext).ob.fld _)) ((hA.ext L.ext).it au.len) ⟨[],[],0,⟨λ _ h=>(nomatch h),λ i y d=>absurd d (Z9 i),rfl,D7 _,D7 _⟩,(C9 _).symm▸L⟩ ?_ ?_)
 ·intro pre i post y z B9 R' hl hQ;intros hQ tr es m hZ;delta hZ T L;intro hR
  have hZ:=P9 hl;delta hZ hp hi
  have TJ:pre.length=i:=by rw[hp,D9]
  have hs:S.getD i aB∈S:=B5 (W5 aB hi)
  have is:=(hA.ext L.ext).at hi
  have kl:=au.Ko w hs
  rw[B0,TJ]at hR
  rw[TJ]at T
  refine uY (H7 (p1 (D8 rfl (is.ob.fld _))) (fO hW is.mv (ns:=(S.getD i aB).moves.map (·.1)) (by rw[rM,G2,G2];rfl) (H8 kl (by decide)) λ c hc=>?_))
  have L1:=L.alloc hc (.list ((dU ((S.getD i aB).moves.map (·.1))).map C0))
  rw[C6]at L1
  generalize B9.set c _=aL at L1
  have hm:∀{j:Nat},j∈dU ((S.getD i aB).moves.map (·.1))↔j∈(S.getD i aB).moves.map (·.1):=(N8 _).mem_iff
  have Hq:=A9 (X0 (N8 ((S.getD i aB).moves.map λ p=>p.1)).length_eq) kl
  generalize dU ((S.getD i aB).moves.map (·.1))=ks at L1 hm Hq
  have Nw:=L1.at_ (c,.list (ks.map C0)) (H0 _ (G4 _ (.head _)))
  refine⟨_,qT Nw Hq rfl,eE (λ p2 ρ S7=>∃z,ρ=F (.ref (As.getD i CQ).a) z∧J (λ j y=>j<i∨(j=i∧y∈p2)) (10*i+p2.length) [(c,.list (ks.map C0))] S7) ⟨z,rfl,tr,es,m,T.skip (D7 _) (λ j z (d:j<i∨(j=i∧z∈[])) _ _=>d.resolve_right λ h=>nomatch h.2),L1⟩ ?_ ?_⟩
  ·intro p2 k iI _ W9 R2 fN hQ;intros hQ z hZ;obtain rfl:=hZ.1;refine ee3.e hZ.2 λ tr es m P4=>?_;delta P4 T L;try clear hZ;intro bS
   have hk:=P5 fN
   have is:=(hA.ext L.ext).at hi
   have st:∀{Y9:PH} {tr es m},Led C8 Y9 (LA tr es m++[(c,.list (ks.map C0))]) R->M9 aL (.ref c) Y9:=λ h=>(h.at_ (c,.list (ks.map C0)) (H0 _ (G4 _ (.head _)))).trans Nw.symm
   rw[B0]at bS
   have b2:10*i+(p2.length+1)<=327680:=by have:=hk.1;have:=au.len;lia
   refine iH (zM (PD (J1 rfl ((hG.ext L.ext).H2 "is_terminal" 129 (by simp)) rfl (jZ (n:=n) P (hG.ext L.ext) ⟨_,rfl,λ ht=>?_,λ ht=>?_⟩))))
   ·have nt:¬k<G.tc:=K6 (WX ht)
    have Zb:(tr.map λ p=>PV.tup (Je p)).length=tr.length:=A8 ..
    refine rG 3 (x:=C0 tr.length) L rfl (V8 (D8 rfl (L.self f2)) (len_list (L.get 2 rfl) Zb)) (D8 rfl (L.self f3)) (oV (I9 (D8 rfl (is.ob.fld _)) (p1 rfl))) (bF [i,k]) T.kt (H8 (A9 T.el (A9 T.len (A9 (cO _) b2))) (by decide)) λ m' Y9 _ L3=>?_
    refine N4 (aH 2 (x:=.tup (Je (i,k))) L3 rfl (D8 rfl (L3.self f2)) (oV (I9 (D8 rfl (((hA.ext L3.ext).at hi).ob.fld _)) (p1 rfl))) (by rw[Zb];exact A9 (A9 T.len (A9 (cO _) b2)) (by decide)) λ bM _ L4=>?_)
    have L5:Led C8 bM (LA (tr++[(i,k)]) (putK (k2 i k) (C0 tr.length) es) m'++[(c,.list (ks.map C0))]) R:=by
     show Led C8 bM ((x,_)::(dx,_)::(ta,.list (List.map _ (tr++[(i,k)])))::_::_) R
     rw[C1];exact L4
    exact O7 (s_end (bS .next _ _ trivial (st L5) ⟨_,rfl,_,_,_,T.add hi (hm.mp hk.2) nt (λ j z d=>d.elim (λ d=>.inl (.inl d)) λ d=>(G9.mp d.2).elim (λ h=>.inl (.inr ⟨d.1,h⟩)) λ h=>.inr ⟨d.1,D5.mp h⟩),L5⟩))
   ·have nt:k<G.tc:=D0 (Qc ht)
    exact O7 (s_end (bS .next _ _ trivial (st L) ⟨_,rfl,tr,es,m,T.skip (cO _) (λ j z d _ nz=>d.imp id λ d=>⟨d.1,(G9.mp d.2).resolve_right λ h=>nz (D5.mp h▸nt)⟩),L⟩))
  ·intro _ W9 hQ;intros hQ z hZ;obtain rfl:=hZ.1;refine ee3.e hZ.2 λ tr es m P4=>?_;delta P4 T L;try clear hZ
   refine s_end (hR .next _ _ _ trivial (((L.ext _ _ hA.sl)).trans (‹Led C8 σ _ R›.ext _ _ hA.sl).symm) ⟨tr,es,m,T.skip (bW Hq _) λ j z d hz _=>?_,L.drop (L:=LA tr es m)|>λ h=>(C9 _).symm▸h⟩)
   exact(Y5.mp d).imp id λ e=>⟨e,hm.mpr (e▸hz)⟩
 ·intro y z B9 hQ;intros hQ tr es m hZ;delta hZ T L
  rw[D9]at T
  rw[C9]at L
  exact s_end (q tr es m B9 (T.skip (by have:=au.len;lia) λ _ _ d _ _=>d) L)
end
abbrev lo(ρ:List PV):Nat->PV:=λ i=>ρ.getD i .M7
section
variable{W:Wd}{n:Nat}{σ:PH}{ρ:List PV}{r b:V0}{K:Fl->List PV->PH->Prop}{e c:PE}{i:Nat}{v:PV}(F:(Nat->PV)->List PV)
theorem eZ{α:Type}{l:List α}{f:α->PV}(I:List α->(Nat->PV)->PH->Prop)(HC:ρ=F (lo ρ))(h:pv σ ρ e=some v)(hv:mF σ v (l.map f))(h0:I [] (lo ρ) σ)
  (hs:∀pre x post u B9 (R:Fl->List PV->PH->Prop),l=pre++x::post->I pre u B9->(∀fl O5 B9,fl.go->M9 σ v B9->I (pre++[x]) (lo O5) B9->O5=F (lo O5)->R fl O5 B9)->S8 W tb n b ((F u).set i (f x)) B9 R)
  (hk:∀u σ,I l u σ->S8 W tb n r (F u) σ K):S8 W tb n (.cons (.R6 i e b) r) ρ σ K:=
 oE (λ pre ρ σ=>ρ=F (lo ρ)∧I pre (lo ρ) σ) h hv ⟨HC,h0⟩ (λ pre x post ρ B9 R e ⟨e',h⟩ k=>e'▸hs pre x post (lo ρ) B9 R e h λ fl O5 B9 g s h e=>k fl _ B9 g s ⟨e,h⟩) λ ρ σ ⟨e',h⟩=>e'▸hk (lo ρ) σ h
theorem Z1{α:Type}{l:List α}{f:α->PV}{B4:PH}(I:List α->(Nat->PV)->PH->Prop)(HC:ρ=F (lo ρ))(hv:mF B4 v (l.map f))(h0:I [] (lo ρ) B4)
  (hs:∀pre x post u B9 (R:Fl->List PV->PH->Prop),l=pre++x::post->I pre u B9->(∀fl O5 B9,fl.go->M9 B4 v B9->I (pre++[x]) (lo O5) B9->O5=F (lo O5)->R fl O5 B9)->S8 W tb n b ((F u).set i (f x)) B9 R)
  (hk:∀u σ,I l u σ->S8 W tb n r (F u) σ K):∃xs,mF B4 v xs∧jW (M9 B4 v) (λ x ρ σ R=>S8 W tb n b (ρ.set i x) σ R) xs ρ B4 (zQ W n r K):=
 ⟨_,hv,eE (λ pre ρ σ=>ρ=F (lo ρ)∧I pre (lo ρ) σ) ⟨HC,h0⟩ (λ pre x post ρ B9 R e ⟨e',h⟩ k=>e'▸hs pre x post (lo ρ) B9 R e h λ fl O5 B9 g s h e=>k fl _ B9 g s ⟨e,h⟩) λ ρ σ ⟨e',h⟩=>e'▸hk (lo ρ) σ h⟩
theorem Z2(h:(wp W tb n e).v ρ σ λ v B4=>∃xs,mF B4 v xs∧jW (M9 B4 v) (λ x ρ σ R=>S8 W tb n b (ρ.set i x) σ R) xs ρ B4 (zQ W n r K)):S8 W tb n (.cons (.R6 i e b) r) ρ σ K:=h
theorem XZ{α:Type}{l:List α}{f:α->List PV}{is:List Nat}(I:List α->(Nat->PV)->PH->Prop)(HC:ρ=F (lo ρ))(h:pv σ ρ e=some v)(hv:mF σ v (l.map λ x=>.tup (f x)))(hl:∀x∈l,(f x).length=is.length)(h0:I [] (lo ρ) σ)
  (hs:∀pre x post u B9 (R:Fl->List PV->PH->Prop),l=pre++x::post->I pre u B9->(∀fl O5 B9,fl.go->M9 σ v B9->I (pre++[x]) (lo O5) B9->O5=F (lo O5)->R fl O5 B9)->S8 W tb n b (aO is (f x) (F u)) B9 R)
  (hk:∀u σ,I l u σ->S8 W tb n r (F u) σ K):S8 W tb n (.cons (.rT is e b) r) ρ σ K:=
 GG (λ pre ρ σ=>ρ=F (lo ρ)∧I pre (lo ρ) σ) h hv hl ⟨HC,h0⟩ (λ pre x post ρ B9 R e ⟨e',h⟩ k=>e'▸hs pre x post (lo ρ) B9 R e h λ fl O5 B9 g s h e=>k fl _ B9 g s ⟨e,h⟩) λ ρ σ ⟨e',h⟩=>e'▸hk (lo ρ) σ h
end
theorem rI{σ:PH}{ρ:List PV}{i:Nat}{v:PV}{z:Int}(e:v=.int z)(h:ρ[i]? =some v):pv σ ρ (.loc i)=some (.int z):=by
 subst e;exact WS h rfl
theorem EO{l:List (Nat×Nat)}{y j:Nat}(nd:(l.map (·.1)).Nodup)(h:(y,j)∈l):(rM l).lookup (.int y)=some (C0 j):=by
 induction l with
 |nil=>cases h
 |cons p l ih=>
  show List.lookup (PK.int y) ((PK.int p.1,C0 p.2)::rM l)=_
  rw[I1]
  rcases F8.mp h with rfl|h
  ·rw[O2]
  ·have:p.1≠y:=λ e=>(N7.mp nd).1 (D2.mpr ⟨_,h,e.symm⟩)
   rw[O0.mpr λ e=>this (by injection e with e;exact(rA e).symm)]
   exact ih (N7.mp nd).2 h
theorem Gr.IK{G:Gr}{s:Nat}(h:s<G.tc)(z:G.tc<=10):s<=64:=A9 (M8 h) (A9 z (by decide))
section
variable{W:Wd}(P:dR W){n:Nat}{σ C8:PH}{g a t:Addr}{As:List SA}{S:List St}{G:Gr}{Q:PV->PH->Prop}(hA:KS σ a g t As S)(au:yL G S)
include P
theorem ZP{i y:Nat}{A:SA}{s:St}(h:DN σ i A s)(q:Q (((rM s.moves).lookup (.int y)).getD (.int (-1))) σ):J9 W (n+1) (.ref 244) [.ref A.a,C0 y] σ Q:=
 P.fn oM 17 rfl (ρ:=[.ref A.a,C0 y]) rfl (W3 (J1 (D8 rfl (h.ob.fld _)) (gX h.mv _) (I9 rfl (p1 rfl)) (RO P.ok h.mv (EP ..) q)))
include hA
theorem Mo{i y:Nat}(hi:i<S.length)(q:Q (((rM (S.getD i aB).moves).lookup (.int y)).getD (.int (-1))) σ):J9 W (n+2) (.ref 342) [.ref a,C0 i,C0 y] σ Q:=
 P.fn kZ 26 rfl (ρ:=[.ref a,C0 i,C0 y]) rfl (W3 (J1 (I8 (D8 rfl (hA.ob.fld _)) rfl (hA.sub hi)) ((hA.at hi).ob.H2 "goto" rfl rfl) (p1 rfl) (ZP P (hA.at hi) q)))
include au
theorem RW{i y j:Nat}(hi:i<S.length)(hj:(y,j)∈(S.getD i aB).moves)(q:Q (C0 j) σ):J9 W (n+2) (.ref 342) [.ref a,C0 i,C0 y] σ Q:=
 Mo P hA hi (by rw[EO (au.nd _ (B5 (W5 aB hi))) hj];exact q)
end
def WF(l:List (Addr×List Nat)):List (Addr×PO):=l.map λ p=>(p.1,.list (p.2.map C0))
abbrev Pn(l:List (Addr×List Nat)):List PV:=refs (l.map (·.1))
theorem Led.row{C8 σ:PH}{L M:List (Addr×PO)}{l:List (Addr×List Nat)}{c:Addr}{r:List Nat}(h:Led C8 σ (L++(c,.list (r.map C0))::M) (WF l)):Led C8 σ (L++M) (WF (l++[(c,r)])):=by
 refine h.perm ?_
 rw[WF,C1,C6,C6]
 refine jG L ?_
 show(M++(WF l++[(c,PO.list (r.map C0))])).Perm ((c,PO.list (r.map C0))::(M++WF l))
 rw[<-C6]
 exact List.perm_append_singleton ..
def j9(k b:Nat)(rows:List (Addr×List Nat)):Prop:=∀p∈rows,p.2.length<=b∧∀y∈p.2,y<k
section
variable{W:Wd}(P:dR W){n:Nat}{σ C8:PH}{g a t x dx ta ia nu:Addr}{As:List SA}{S:List St}{G:Gr}{Q:PV->PH->Prop}(w:G.Wf)(hG:qA C8 g G)(hA:KS C8 a g t As S)(au:yL G S){fs:List (String×PV)}
 {tr:List (Nat×Nat)}{es:List (PK×PV)}{m:Nat}{nb:List Bool}(T:Bo G S (λ i _=>i<S.length) 327680 tr es)(hn:C8 nu=some (.list (nb.map .bool)))(hz:nb.length=G.names.length)(ht:C8 ta=some (.list (tr.map λ p=>.tup (Je p))))(hi:C8 ia=some (.dict es m))
 (f1:fs.lookup "automaton"=some (.ref a))(f2:fs.lookup "transitions"=some (.ref ta))(f3:fs.lookup "index"=some (.ref ia))(f4:fs.lookup "nullables"=some (.ref nu))
include P w hG hA au T hn hz ht hi f1 f2 f3 f4
theorem ZU{da ra:Addr}(f5:fs.lookup "direct"=some (.ref da))(f6:fs.lookup "reads"=some (.ref ra))(L:Led C8 σ ((x,.inst 490 dx)::(dx,.attrs 490 fs)::(da,.list [])::(ra,.list [])::[]) [])
  (q:∀(ds:List Nat) rows B9,ds.length=tr.length->(∀d∈ds,d<2^G.tc)->rows.length=tr.length->j9 tr.length 10 rows->Led C8 B9 ((x,.inst 490 dx)::(dx,.attrs 490 fs)::(da,.list (ds.map C0))::(ra,.list (Pn rows))::[]) (WF rows)->Q .none B9):J9 W (n+3) (.ref 459) [.ref x] σ Q:=by
 have zt:G.tc<=10:=A9 w.tc w.names
 refine P.fn dN 35 rfl (ρ:=[.ref x,.M7,.M7,.M7,.M7,.M7,.M7,.M7,.M7]) rfl ?_
 let LA:List Nat->List (Addr×List Nat)->List (Addr×PO):=λ ds rows=>(x,.inst 490 dx)::(dx,.attrs 490 fs)::(da,.list (ds.map C0))::(ra,.list (Pn rows))::[]
 let F:(Nat->PV)->List PV:=λ v=>[.ref x,.ref g,v 2,v 3,v 4,v 5,v 6,v 7,v 8]
 have L0:=L
 refine P3 (D8 (D8 rfl (L.self f1)) ((hA.ext L.ext).ob.fld _)) (XZ F (l:=tr) (f:=Je) (v:=.ref ta) (λ pre _ B9=>∃ds rows,ds.length=pre.length∧(∀d∈ds,d<2^G.tc)∧rows.length=pre.length∧j9 tr.length 10 rows∧Led C8 B9 (LA ds rows) (WF rows)) rfl
  (D8 rfl (L.self f2)) (V6 (L.ext _ _ ht) (GW T.len (by decide))) (λ _ _=>rfl) ⟨[],[],rfl,λ _ h=>(nomatch h),rfl,λ _ h=>(nomatch h),L⟩ ?_ ?_)
 ·intro pre p post u aL R1 hl hQ;intros hQ ds rows hZ;delta hZ h1 h2 h3 h4 L;intro hR
  have hp:=P5 hl
  have hZ:=T.mem p hp.2;delta hZ Ld y5 Wx
  refine A0 (D2.mp Wx) ?_;intro hZ;obtain⟨_,j⟩:=hZ;intro hZ;generalize hZ.1=hj;obtain rfl:=hZ.2;try clear hZ
  have hs:=B5 (W5 aB Ld)
  have jS:=(au.mv _ hs _ hj).2
  have Lb:=B5 (W5 aB jS)
  refine K1 (J1 (D8 rfl (L.self f1)) ((hA.ext L.ext).ob.H2 "goto" rfl rfl) rfl (RW (n:=n) P (hA.ext L.ext) au Ld hj (P3 rfl (K1 (K7 L rfl λ c6 W9 L2=>P3 (D8 (I8 (D8 (D8 rfl (L2.self f1)) ((hA.ext L2.ext).ob.fld _)) rfl ((hA.ext L2.ext).sub jS)) (((hA.ext L2.ext).at jS).ob.fld _)) ?_)))))
  have kl:=au.Ko w Lb
  refine Z2 (H7 (p1 rfl) (fO P.ok ((hA.ext L2.ext).at jS).mv (ns:=(S.getD j aB).moves.map (·.1)) (by rw[rM,G2,G2];rfl) (H8 kl (by decide)) λ c hc=>?_))
  have L3:=L2.alloc hc (.list ((dU ((S.getD j aB).moves.map (·.1))).map C0))
  generalize W9.set c _=Y9 at L3
  have hm:∀{k:Nat},k∈dU ((S.getD j aB).moves.map (·.1))->k∈(S.getD j aB).moves.map (·.1):=(N8 _).mem_iff.mp
  have Hq:=A9 (X0 (N8 ((S.getD j aB).moves.map λ p=>p.1)).length_eq) kl
  generalize dU ((S.getD j aB).moves.map (·.1))=ks at L3 hm Hq
  let M:List Nat->List (Addr×PO):=λ r=>(LA ds rows++[(c6,.list (r.map C0))])++[(c,.list (ks.map C0))]
  have mc:∀{B9 r},Led C8 B9 (M r) (WF rows)->B9 c=some (.list (ks.map C0)):=λ h=>h.at_ _ (H0 _ (G4 _ (.head _)))
  let F':(Nat->PV)->List PV:=λ v=>[.ref x,.ref g,C0 p.1,v 3,C0 j,v 5,.ref c6,v 7,v 8]
  refine Z1 F' (l:=ks) (f:=C0) (λ p2 v B9=>∃k r,v 5=C0 k∧k<2^G.tc∧r.length<=p2.length∧(∀y∈r,y<tr.length)∧Led C8 B9 (M r) (WF rows)) rfl (qT (mc (r:=[]) L3) Hq rfl) ⟨0,[],rfl,Z8 _,D7 _,λ _ h=>(nomatch h),L3⟩ ?_ ?_
  ·intro p2 k iI u bM R2 fN hQ;intros hQ z r hZ;delta hZ e5 Dd hr hy L;intro bS
   have hk:=P5 fN
   have Nu:=hm hk.2
   have kN:k<G.names.length:=by refine A0 (D2.mp Nu) λ q hZ=>?_;generalize hZ.1=hq;clear bS hk Nu;obtain rfl:=hZ.2;try clear hZ;exact(au.mv _ Lb q hq).1
   have el:(p2++[k]).length=p2.length+1:=B0
   rw[el]at bS
   refine iH (PD (J1 rfl ((hG.ext L.ext).H2 "is_terminal" 129 (by simp)) rfl (jZ (n:=n+1) P (hG.ext L.ext) ⟨_,rfl,λ ht=>?_,λ ht=>?_⟩)))
   ·have kt:=D0 ht
    refine K1 (O6 (P2 (rI e5 rfl) (rE rfl rfl (sY k (Gr.IK kt zt) (uI (O7 (s_end (bS .next _ _ trivial ((mc L).trans (mc (r:=[]) L3).symm) ⟨_,r,rfl,Z5 Dd (kI (by decide) kt),Z6 hr,hy,L⟩ (by show _=F' _;rfl)))))))))
   ·have nt:=K6 ht
    refine dA (AD (I8 (D8 rfl (L.self f4)) rfl (W8 false (L.ext _ _ hn) (hz.symm▸kN)))) (λ _=>?_) λ _=>O7 (O7 (s_end (bS .next _ _ trivial ((mc L).trans (mc (r:=[]) L3).symm) ⟨z,r,e5,Dd,Z6 hr,hy,L⟩ rfl)))
    refine A0 (T.ix j k jS Nu nt) λ y hZ=>?_;delta hZ Ky Tt
    refine N4 (aH 4 (x:=C0 y) L rfl rfl (I8 (D8 rfl (L.self f3)) (oV (I9 rfl (p1 rfl))) ((bE (L.ext _ _ hi) (bF [j,k])).trans Tt)) (GW hr (A9 (M8 hk.1) (A9 Hq (by decide)))) λ cI _ L5=>?_)
    have L6:Led C8 cI (M (r++[y])) (WF rows):=US (C:=λ z=>Led C8 cI ((LA ds rows++[(c6,.list z)])++[(c,.list (ks.map C0))]) (WF rows)) y L5
    exact O7 (O7 (s_end (bS .next _ _ trivial ((mc L6).trans (mc (r:=[]) L3).symm) ⟨z,r++[y],e5,Dd,by rw[B0];exact O1 hr,T8 hy Ky,L6⟩ rfl)))
  ·intro u bM hQ;intros hQ z r hZ;delta hZ e5 Dd hr hy L
   have j7:pre.length<=16777216:=A9 (M8 hp.1) (A9 T.len (by decide))
   have e1:(pre++[p]).length=pre.length+1:=B0
   rw[e1]at hR
   refine N4 (aH 2 (x:=C0 z) L rfl (D8 rfl (L.self f5)) (rI e5 rfl) (lz h1 j7) λ cI _ L5=>N4 (aH 3 (x:=.ref c6) L5 rfl (D8 rfl (L5.self f6)) rfl (by rw[Pn,refs,A8,A8,h3];exact j7) λ eM _ L6=>s_end (hR .next _ _ trivial ((L6.ext _ _ ht).trans (L0.ext _ _ ht).symm) ⟨ds++[z],rows++[(c6,r)],by rw[B0,h1];rfl,T8 h2 Dd,by rw[B0,h3];rfl,T8 h4 ⟨A9 hr Hq,hy⟩,?_⟩ rfl)))
   have L7:=Led.row (L:=[(x,.inst 490 dx),(dx,.attrs 490 fs),(da,.list (ds.map C0++[C0 z])),(ra,.list (Pn rows++[.ref c6]))]) (M:=[(c,.list (ks.map C0))]) L6
   have L8:=Led.drop (L:=[(x,.inst 490 dx),(dx,.attrs 490 fs),(da,.list (ds.map C0++[C0 z])),(ra,.list (Pn rows++[.ref c6]))]) L7
   refine US (C:=λ y=>Led C8 eM (_::_::(da,.list y)::_) _) z ?_
   show Led C8 eM (_::_::_::(ra,.list (refs (List.map _ (rows++[(c6,r)]))))::_) _
   rw[refs,C1,C1]
   exact L8
 ·intro u aL hQ;intros hQ ds rows hZ;delta hZ h1 h2 h3 h4 L
  exact s_end (q ds rows aL h1 h2 h3 h4 L)
end
def RI(N:Nat)(c:Nat->List Nat):Prop:=∀i,(c i).Nodup∧∀y∈c i,y<N
theorem Ip(s:Nat):binI .Sub (C0 (s+1)) (.int 1)=some (C0 s):=C7 (λ z=>some (PV.int z)) (Int.add_sub_cancel (s:Int) 1)
section
variable{W:Wd}(P:dR W){n N:Nat}{C8 σ:PH}{L:List (Addr×PO)}{A:List Addr}{c:Nat->List Nat}{Q:PV->PH->Prop}
include P
theorem rV{a:Addr}{y:Nat}(hc:RI N c)(hN:N<=327680)(hy:y<N)(hA:a∈A)(L0:Led C8 σ L (mB A λ i=>(c i).map C0))
  (q:∀c' B9,RI N c'->Led C8 B9 L (mB A λ i=>(c' i).map C0)->Q .none B9):J9 W (n+1) (.ref 501) [.ref a,C0 y] σ Q:=by
 refine A0 (List.getElem?_of_mem hA) λ i hA=>?_
 refine P.fn AB 39 rfl (ρ:=[.ref a,C0 y]) rfl (dA (oU rfl rfl (in_list (L0.HF (aD hA)))) (λ h=>N4 (LP (x:=C0 y) (i:=i) L0 (aD hA) rfl rfl (GW (Y3 (hc i).1 (hc i).2) (A9 hN (by decide))) λ B9 _ L'=>O7 (s_end (q (λ j=>if j=i then c i++[y]else c j) B9 (λ j=>?_) ?_)))) λ _=>O7 (s_end (q c σ hc L0)))
 ·show(if j=i then c i++[y]else c j).Nodup∧∀z∈(if j=i then c i++[y]else c j),z<N
  split
  ·exact⟨O8.mpr ⟨(hc i).1,.cons (λ _ h=>nomatch h) .nil,λ a ha b hb e=>K6 (WX h) (D5.mp hb▸e▸ha)⟩,T8 (hc i).2 hy⟩
  ·exact hc j
 ·rw[yU hA]at L'
  refine(gW λ j _=>?_)▸L'
  split
  ·exact(C1 (f:=C0) (l₂:=[y])).symm
  ·rfl
theorem KH{x nu:Addr}{nb:List Bool}{r:List Nat}(hx:fld σ (.ref x) "nullables"=some (.ref nu))(hn:σ nu=some (.list (nb.map .bool)))(hr:∀s∈r,s<nb.length)(q:∀e:Nat,Q (C0 e) σ):J9 W (n+1) (.ref 473) [.ref x,.tup (r.map C0)] σ Q:=by
 refine P.fn dX 37 rfl (ρ:=[.ref x,.tup (r.map C0),.M7]) rfl ?_
 let F:Nat->List PV:=λ s=>[.ref x,.tup (r.map C0),C0 s]
 refine P3 (x:=C0 r.length) (V8 rfl (pV (A8 ..))) (Hf F id (λ s B9=>B9=σ∧s<=r.length) r.length (λ s _=>s.casesOn false λ s=>nb.getD (r.getD s 0) false) rfl ⟨rfl,D7 _⟩ ?_ ?_ ?_)
 ·intro s _ hQ;clear P;clear q;obtain rfl:=hQ.1;delta hQ hQ hs
  cases s with
  |zero=>rfl
  |succ s=>exact jQ (b:=true) (N3 rfl rfl (C7 some (H3 (Int.natCast_pos.mpr (eP s))))) (AD (I8 (D8 rfl hx) (I8 rfl (jK rfl rfl (Ip s)) (fQ (V5 (W5 0 hs)))) (W8 false hn (hr _ (B5 (W5 0 hs))))))
 ·intro s _ R hQ;clear P hn hr hx nu;clear q;obtain rfl:=hQ.1;delta hQ hQ hs;intro ht hR
  cases s with
  |zero=>cases ht
  |succ s=>exact P3 (jK rfl rfl (Ip s)) (s_end (hR .next s _ trivial (K5 s) ⟨rfl,hY hs⟩))
 ·intro s _ hQ;clear P hn hr hx nu;obtain rfl:=hQ.1;delta hQ hQ hs;intro _
  refine W3 (H7 (I9 (jK rfl rfl rfl) (p1 rfl)) (Iq ?_))
  clear W hs n;cases s with
  |zero=>exact q 0
  |succ s=>
   rw[Int.add_sub_cancel (s:Int) 1|>λ h=>(show((s+1:Nat):Int) - 1=s from h),G0 (Int.not_lt.mpr (G6 s))]
   exact q s
end
theorem Gr.It.OH{G:Gr}{m i d:Nat}{r:Rl}(h:G.It m i r d):G.cM m=r.right[d]? :=by have hZ:=h.I;delta hZ hZ e1 e2;unfold Gr.cM;rw[e1,e2]
theorem yL.red{G:Gr}{S:List St}(au:yL G S){s:St}(hs:s∈S){i:Nat}{r:Rl}(e:G.rules[i]? =some r)(hi:i≠0)(h:G.off i+r.right.length∈s.items):i∈s.iX:=by
 have it:G.It (G.off i+r.right.length) i r r.right.length:=⟨e,D7 _,rfl⟩
 rw[au.rd s hs]
 exact(N8 _).mem_iff.mpr (D2.mpr ⟨_,J5.mpr ⟨h,by rw[it.OH,it.I.1,jE (D7 _)];exact H3 hi⟩,it.I.1⟩)
theorem yL.Jw{G:Gr}{S:List St}(au:yL G S){s:St}(hs:s∈S):s.iX.Pairwise (·<·):=by
 rw[au.rd s hs]
 have e:∀m,m<G.aS.length->G.cM m=none->m=G.off (G.S6 m)+(G.PT m).right.length:=λ m h a=>by
  have it:=Gr.it h
  have:=eV.mp (it.OH.symm.trans a)
  exact it.at_.trans (C7 _ (Nat.le_antisymm it.dot this))
 have nd:(G.eH s.items).Nodup:=by
  refine X4.mpr (bK (λ{a b} ha hb ne c=>ne ?_) (List.Pairwise.filter _ (show s.items.Nodup by rw[au.it s hs];exact(au.ks s hs).close.nd)))
  have hZ:=J5.mp ha;delta hZ a1 a2
  have hZ:=J5.mp hb;delta hZ b1 b2
  have la:=au.lt hs a a1
  have lb:=au.lt hs b b1
  have ra:=(Gr.it la).rule
  rw[c,(Gr.it lb).rule]at ra
  rw[e a la (eU.mp (F0.mp a2).1),e b lb (eU.mp (F0.mp b2).1),c,G8 ra]
 exact(List.pairwise_and_iff.mpr ⟨FZ _,(N8 _).nodup_iff.mpr nd⟩).imp λ h=>Nat.lt_of_le_of_ne h.1 h.2
structure Gk(S:List St)(D:Nat->Nat->Prop)(b:Nat)(A:List Addr)(es:List (PK×PV)):Prop where
 ix:∀i r,D i r->r∈(S.getD i aB).iX->∃a∈A,es.lookup (k2 i r)=some (.ref a)
 vl:∀p∈es,∃a∈A,p.2=.ref a
 kt:es.all (λ p=>jT p.1)=true
 el:es.length<=b
theorem JB{k:PK}{x:PV}{p:PK×PV}:∀{es:List (PK×PV)},p∈putK k x es->p.2=x∨p∈es
 |[],h=>.inl (D5.mp h▸rfl)
 |q::l,h=>by
  rw[lT]at h
  split at h
  ·exact(F8.mp h).imp (C7 Prod.snd) (.tail _)
  ·exact(F8.mp h).elim (λ h=>.inr (h▸.head _)) λ h=>(JB h).imp id (.tail _)
theorem Gk.add{S:List St}{D D':Nat->Nat->Prop}{b:Nat}{A:List Addr}{es:List (PK×PV)}(h:Gk S D b A es){i r:Nat}(c:Addr)(hD:∀j z,D' j z->D j z∨(j=i∧z=r)):Gk S D' (b+1) (A++[c]) (putK (k2 i r) (.ref c) es):=by
 refine⟨λ j z d hz=>?_,λ p hp=>?_,tN h.kt rfl,A9 tM (O1 h.el)⟩
 ·rw[vC]
  split
  ·exact⟨c,G4 _ (.head _),rfl⟩
  ·rename_i ne
   refine A0 (h.ix j z ((hD j z d).resolve_right λ e=>ne (by rw[e.1,e.2])) hz) λ a hZ=>?_;delta hZ h1 h2
   exact⟨a,H0 _ h1,h2⟩
 ·rcases JB hp with e|hp
  ·exact⟨c,G4 _ (.head _),e⟩
  ·refine A0 (h.vl p hp) λ a hZ=>?_;delta hZ h1 h2
   exact⟨a,H0 _ h1,h2⟩
theorem Gk.skip{S:List St}{D D':Nat->Nat->Prop}{b b':Nat}{A:List Addr}{es:List (PK×PV)}(h:Gk S D b A es)(hb:b<=b')(hD:∀j z,D' j z->z∈(S.getD j aB).iX->D j z):Gk S D' b' A es:=
 ⟨λ j z d hz=>h.ix j z (hD j z d hz) hz,h.vl,h.kt,A9 h.el hb⟩
theorem oT{W:Wd}{n:Nat}{σ:PH}{ρ:List PV}{r b b':V0}{K:Fl->List PV->PH->Prop}{e:PE}(T:List PV->PH->Prop)(hk:∀O5 B9,T O5 B9->S8 W tb n r O5 B9 K)
  (h:(∀R:Fl->List PV->PH->Prop,(∀O5 B9,T O5 B9->R .next O5 B9)->(wp W tb n e).t ρ σ λ t B4=>(t=true->S8 W tb n b ρ B4 R)∧(t=false->S8 W tb n b' ρ B4 R))):S8 W tb n (.cons (.ite e b b') r) ρ σ K:=iH (h _ hk)
theorem Ji{W:Wd}{n:Nat}{σ:PH}{ρ:List PV}{B:Bool->PH->Prop}{a b:PE}{t:Bool}(h:pt σ ρ a=some t)(hT:(wp W tb n b).t ρ σ B)(hF:B false σ):(wp W tb n (.and a b)).t ρ σ B:=IL (uT h (by clear h;cases t;exact hF;exact hT))
theorem IW{G:Gr}{S:List St}(au:yL G S)(w:G.Wf){s:St}(hs:s∈S):s.iX.length<=15:=by
 rw[au.rd s hs,(N8 _).length_eq]
 unfold Gr.eH
 rw[A8]
 exact A9 (H4 ..) (by rw[au.it s hs];exact(au.ks s hs).close.len w)
section
variable{W:Wd}(P:dR W){n:Nat}{σ C8:PH}{g a t x dx ta ia nu:Addr}{As:List SA}{S:List St}{G:Gr}{Q:PV->PH->Prop}(w:G.Wf)(hG:qA C8 g G)(hA:KS C8 a g t As S)(au:yL G S){fs:List (String×PV)}
 {tr:List (Nat×Nat)}{es:List (PK×PV)}{m:Nat}{nb:List Bool}(T:Bo G S (λ i _=>i<S.length) 327680 tr es)(hn:C8 nu=some (.list (nb.map .bool)))(hz:nb.length=G.names.length)(ht:C8 ta=some (.list (tr.map λ p=>.tup (Je p))))(hi:C8 ia=some (.dict es m))
 (f1:fs.lookup "automaton"=some (.ref a))(f2:fs.lookup "transitions"=some (.ref ta))(f3:fs.lookup "index"=some (.ref ia))(f4:fs.lookup "nullables"=some (.ref nu))
include P w hG hA au T hn hz ht hi f1 f2 f3 f4
theorem Fu{Ts Vk la:Addr}{A1 A2:List Addr}(f5:fs.lookup "includes"=some (.ref Ts))(f6:fs.lookup "turns"=some (.ref Vk))(f7:fs.lookup "lookback"=some (.ref la))(f8:fs.lookup "open_ends"=none)(h1:C8 Ts=some (.list (refs A1)))(h2:C8 Vk=some (.list (refs A2)))(z1:A1.length=tr.length)(z2:A2.length=tr.length)
  (L:Led C8 σ ((x,.inst 490 dx)::(dx,.attrs 490 fs)::(la,.dict [] 0)::[]) (mB (A1++A2) λ _=>[]))
  (q:∀ls m A3 c B9,Gk S (λ i _=>i<S.length) 491520 A3 ls->RI tr.length c->Led C8 B9 ((x,.inst 490 dx)::(dx,.attrs 490 fs)::(la,.dict ls m)::[]) (mB (A1++A2++A3) λ i=>(c i).map C0)->Q .none B9):J9 W (n+3) (.ref 466) [.ref x] σ Q:=by
 refine P.fn cF 36 rfl (ρ:=[.ref x,.M7,.M7,.M7,.M7,.M7,.M7,.M7,.M7,.M7,.M7,.M7,.M7]) rfl ?_
 let LA:List (PK×PV)->Nat->List (Addr×PO):=λ ls m=>(x,.inst 490 dx)::(dx,.attrs 490 fs)::(la,.dict ls m)::[]
 let F:(Nat->PV)->List PV:=λ v=>[.ref x,.ref g,v 2,v 3,v 4,v 5,v 6,v 7,v 8,v 9,v 10,v 11,v 12]
 let J:(Nat->Nat->Prop)->Nat->PH->Prop:=λ D b B9=>∃ls m A3,Gk S D b A3 ls∧Led C8 B9 (LA ls m) (mB (A1++A2++A3) λ _=>[])
 have zt:tr.length<=327680:=T.len
 refine P3 (D8 (D8 rfl (L.self f1)) ((hA.ext L.ext).ob.fld _)) (eZ F (v:=.ref t) (λ pre _ B9=>J (λ i _=>i<pre.length) (15*pre.length) B9) rfl (D8 (D8 rfl (L.self f1)) ((hA.ext L.ext).ob.fld _)) ((hA.ext L.ext).it au.len) ⟨[],0,[],⟨λ i r d=>absurd d (Z9 i),λ _ h=>(nomatch h),rfl,D7 _⟩,(C9 (A1++A2)).symm▸L⟩ ?_ ?_)
 ·intro pre i post u aL R1 hl hQ;intros hQ ls m1 A3 hZ;delta hZ K L1;intro hR
  have hZ:=P9 hl;delta hZ hp hi
  have TJ:pre.length=i:=by rw[hp,D9]
  have hs:S.getD i aB∈S:=B5 (W5 aB hi)
  have rl:=IW au w hs
  have r8:∀{B9:PH} {L R:List (Addr×PO)} {y:Addr} {o:PO},Led C8 B9 L R->C8 y=some o->B9 y=aL y:=λ h e=>(h.ext _ _ e).trans (L1.ext _ _ e).symm
  rw[B0,TJ]at hR
  rw[TJ]at K
  let F1:(Nat->PV)->List PV:=λ v=>[.ref x,.ref g,.ref (As.getD i CQ).a,v 3,v 4,v 5,v 6,v 7,v 8,v 9,v 10,v 11,v 12]
  have Nq:=hA.at hi
  refine eZ F1 (l:=(S.getD i aB).iX) (f:=C0) (λ p2 _ B9=>J (λ j y=>j<i∨(j=i∧y∈p2)) (15*i+p2.length) B9) rfl (D8 rfl (((hA.ext L1.ext).at hi).ob.fld _)) (qT (((hA.ext L1.ext).at hi).rd) rl rfl) ⟨ls,m1,A3,K.skip (D7 _) (λ j z (d:j<i∨(j=i∧z∈[])) _=>d.resolve_right λ h=>nomatch h.2),L1⟩ ?_ ?_
  ·intro p2 k iI u2 W9 R2 fN hQ;intros hQ ls m2 A3 hZ;delta hZ K L2;intro bS
   rw[B0]at bS
   have b2:=(P5 fN).1
   have bz:ls.length<2^24:=H8 K.el (by have:=au.len;lia)
   refine zT (uQ rfl λ c hc=>?_)
   have L3:=L2.wH hc (.list [])
   generalize W9.set c _=Y9 at L3 ⊢
   have Ir:Led C8 Y9 (LA ls m2) (mB (A1++A2++(A3++[c])) λ _=>[]):=by
    rw[<-C6,<-BC];exact L3
   refine P2 (D8 rfl (Ir.self f7)) (P2 (oV (I9 (D8 rfl (((hA.ext Ir.ext).at hi).ob.fld _)) (p1 rfl))) (OW 2 Ir rfl (bF [i,k]) K.kt bz λ m3 bM _ L4=>s_end (bS .next _ _ trivial (r8 L4 Nq.rd) ⟨_,m3,A3++[c],K.add c (λ j z d=>d.elim (λ d=>.inl (.inl d)) λ d=>(G9.mp d.2).elim (λ h=>.inl (.inr ⟨d.1,h⟩)) λ h=>.inr ⟨d.1,D5.mp h⟩),L4⟩ rfl)))
  ·intro u2 W9 hQ;intros hQ ls m2 A3 hZ;delta hZ K L2
   exact s_end (hR .next _ _ trivial ((L2.ext _ _ hA.sl).trans (L.ext _ _ hA.sl).symm) ⟨ls,m2,A3,K.skip (bW rl _) (λ j z d hz=>(Y5.mp d).imp id λ e=>⟨e,e▸hz⟩),L2⟩ rfl)
 ·intro u aL hQ;intros hQ ls m1 A3 hZ;delta hZ K L1
  rw[D9]at K
  let A:=A1++A2++A3
  let N:List (Addr×PO)->PH->Prop:=λ X B9=>∃c,RI tr.length c∧Led C8 B9 (LA ls m1++X) (mB A λ i=>(c i).map C0)
  refine Z2 (H7 (p1 (V8 (D8 rfl (L1.self f2)) (len_list (L1.ext _ _ ht) (A8 ..)))) (aQ (Z1 F (λ _ _ B9=>N [] B9) rfl (fJ (A9 zt (by decide))) ⟨λ _=>[],λ i=>⟨.nil,λ _ h=>(nomatch h)⟩,L1⟩ ?_ ?_)))
  ·intro pre j post u2 W9 R2 hl hQ;intros hQ c hZ;delta hZ hc L2;intro hR
   have hj:=(P9 hl).2
   have hp:=B5 (W5 (0,0) hj)
   refine WD (I8 (D8 rfl (L2.self f2)) rfl (W8 (0,0) (L2.ext _ _ ht) hj)) rfl ?_
   generalize tr.getD j (0,0)=p at hp
   have hZ:=T.mem p hp;delta hZ Ld y5 Wx
   refine A0 (D2.mp Wx) ?_;intro hZ;obtain⟨y,k⟩:=hZ;intro hZ;delta hZ hk e1
   obtain⟨hy,_,mm,Ua,b9⟩:=au.mv _ (B5 (W5 aB Ld)) _ hk
   have e1:y=p.2:=e1
   clear hk e1;subst e1
   have cl:=au.cl _ (B5 (W5 aB Ld)) mm Ua _ b9
   have u3:p.2≠G.tc:=λ e=>w.na _ (B5 (Gr.it (au.lt (B5 (W5 aB Ld)) mm Ua)).rule) (e▸B5 b9)
   refine Z2 (J1 rfl ((hG.ext L2.ext).H2 "rules_of" 150 (by simp)) (p1 rfl) (BZ (n:=n+1) P (hG.ext L2.ext) hy (A9 w.rules (by decide)) λ c3 Y9 E3 CT h3=>?_))
   have L3:=L2.adopt E3 CT h3
   let X:List (Addr×PO):=[(c3,.list ((G.of p.2).map C0))]
   have Tf:∀{B9},N X B9->B9 c3=some (.list ((G.of p.2).map C0)):=λ⟨_,_,L⟩=>L.at_ _ (H0 _ (G4 _ (.head _)))
   let F3:(Nat->PV)->List PV:=λ v=>[.ref x,.ref g,v 2,v 3,C0 j,C0 p.1,C0 p.2,v 7,v 8,v 9,v 10,v 11,v 12]
   refine Z1 F3 (l:=G.of p.2) (f:=C0) (λ _ _ B9=>N X B9) rfl (qT (Tf ⟨c,hc,L3⟩) (AW w _) rfl) ⟨c,hc,L3⟩ ?_ λ u4 bM ⟨c,hc,L4⟩=>s_end (hR .next _ _ trivial trivial ⟨c,hc,L4.drop (L:=LA ls m1++[])⟩ rfl)
   intro t9 r Zl u4 bM R4 ah hQ;intros hQ c hZ;delta hZ hc L4;intro bn
   have hr:=(P5 ah).2
   have TM:=cl r hr
   have hZ:=vN hr;refine A0 hZ.2 λ rl Q0=>?_;delta Q0 er el;try clear hZ
   have r0:r≠0:=λ e=>by
    have:=w.r0
    rw[<-e,er]at this
    exact u3 (el▸G8 this)
   have a6:=B5 er
   have sy:=w.sym rl a6
   have w3:=w.len rl a6
   refine ee3.e ((hG.ext L4.ext).rule er) λ ru ra rb hZ=>?_;delta hZ r1 r2 r3 r4
   refine P3 (D8 (I8 (D8 rfl r1) rfl (I0 r2 r3)) r4.right) (K1 (J1 rfl ((L4.obj 0 1 rfl rfl).H2 "open_ends" f8 rfl) (p1 rfl) (KH (n:=n+1) P (L4.self f4) (L4.ext _ _ hn) (λ s hs=>hz.symm▸sy s hs) λ e=>P3 rfl (Z2 (H7 (p1 (V8 rfl (pV (A8 ..)))) (aQ ?_))))))
   let F5:(Nat->PV)->List PV:=λ v=>[.ref x,.ref g,v 2,C0 r,C0 j,C0 p.1,C0 p.2,.tup (rl.right.map C0),C0 e,v 9,v 10,v 11,v 12]
   refine Z1 F5 (λ pre v B9=>∃k,v 9=C0 k∧k<S.length∧G.off r+pre.length∈(S.getD k aB).items∧N X B9) rfl (fJ (A9 w3 (by decide))) ⟨p.1,rfl,Ld,TM,c,hc,L4⟩ ?_ ?_
   ·intro t8 s Zk u5 cI R5 ag hQ;intros hQ k hZ;obtain⟨e9,hk,hit,c,hc,L5⟩:=hZ;intro g0
    have hZ:=P9 ag;delta hZ b0 hs
    rw[b0,D9]at hit
    rw[B0,b0,D9]at g0
    have Tw:=W5 0 hs
    have x8:=sy _ (B5 Tw)
    generalize rl.right.getD s 0=y at Tw x8
    have Nu:=B5 (W5 aB hk)
    have bf:G.cM (G.off r+s)=some y:=(Gr.It.OH ⟨er,M8 hs,rfl⟩).trans Tw
    refine ee2.e (au.go _ Nu _ hit _ bf) λ k' t' hZ=>?_;delta hZ Xb Xa z7
    have TK:=(au.mv _ Nu _ Xb).2
    let F6:PV->List PV:=λ v=>[.ref x,.ref g,u5 2,C0 r,C0 j,C0 p.1,C0 p.2,.tup (rl.right.map C0),C0 e,u5 9,C0 s,C0 y,v]
    refine P3 (I8 rfl rfl (fQ (V5 Tw))) (oT (λ O5 B9=>∃v,O5=F6 v∧N X B9) ?_ λ R hR=>Ji (N3 rfl rfl rfl) (zM (PD (J1 rfl ((hG.ext L5.ext).H2 "is_terminal" 129 (by simp)) rfl (jZ (n:=n+1) P (hG.ext L5.ext) ⟨_,rfl,λ ht=>?_,λ _=>s_end (hR _ _ ⟨_,rfl,c,hc,L5⟩)⟩)))) ⟨(λ h=>nomatch h),λ _=>s_end (hR _ _ ⟨_,rfl,c,hc,L5⟩)⟩)
    ·intro _ eM hQ;intros hQ v hZ;obtain rfl:=hZ.1;refine A0 hZ.2 λ c P4=>?_;delta P4 hc L6;try clear hZ
     refine K1 (J1 (D8 rfl (L6.self f1)) ((hA.ext L6.ext).ob.H2 "goto" rfl rfl) (I9 (rI e9 rfl) (p1 rfl)) (RW (n:=n) P (hA.ext L6.ext) au hk Xb (s_end (g0 .next _ _ trivial trivial ⟨k',rfl,TK,?_,c,hc,L6⟩ rfl))))
     rw[C2,Xa]
     exact z7
    ·refine A0 (T.ix k y hk (J2 Xb) (K6 (WX ht))) λ v hZ=>?_;delta hZ hv he
     have i1:=W5 (l:=A1) 0 (z1.symm▸hv)
     have i2:=W5 (l:=A2) 0 (z2.symm▸hv)
     refine P3 (x:=C0 v) (I8 (D8 rfl (L5.self f3)) (oV (I9 (rI e9 rfl) (p1 rfl))) ((bE (L5.ext _ _ hi) (bF [k,y])).trans he)) (N4 (H7 (I9 (I8 (D8 rfl (L5.self f5)) rfl (I0 (L5.ext _ _ h1) (V5 i1))) (p1 rfl))
      (rV (n:=n+1) P hc zt hj (H0 _ (H0 _ (B5 i1))) L5 λ c eX hc L7=>?_)))
     exact dA (N3 rfl rfl rfl) (λ _=>N4 (H7 (I9 (I8 (D8 rfl (L7.self f6)) rfl (I0 (L7.ext _ _ h2) (V5 i2))) (p1 rfl)) (rV (n:=n+1) P hc zt hj (H0 _ (G4 _ (B5 i2))) L7 λ c qC hc L8=>O7 (s_end (hR _ _ ⟨_,rfl,c,hc,L8⟩))))) λ _=>O7 (s_end (hR _ _ ⟨_,rfl,c,hc,L7⟩))
   ·intro u5 cI hQ;intros hQ k hZ;obtain⟨e9,hk,hit,c,hc,L5⟩:=hZ
    rw[D9]at hit
    refine A0 (K.ix k r hk (au.red (B5 (W5 aB hk)) er r0 hit)) λ ad hZ=>?_;delta hZ ha hl
    exact N4 (H7 (I9 (I8 (D8 rfl (L5.self f7)) (oV (I9 (rI e9 rfl) (p1 rfl))) ((bE (L5.get 2 rfl) (bF [k,r])).trans hl)) (p1 rfl)) (rV (n:=n+1) P hc zt hj (G4 _ ha) L5 λ c eM hc L6=>s_end (bn .next _ _ trivial ((Tf ⟨c,hc,L6⟩).trans h3.symm) ⟨c,hc,L6⟩ rfl)))
  ·intro u2 W9 hQ;intros hQ c hZ;delta hZ hc L2
   exact s_end (q ls m1 A3 c W9 (K.skip (by have:=au.len;lia) λ _ _ d _=>d) hc L2)
end
theorem QJ(l:List Int):keyOf (.tup (l.map .int))=some (.bN l):=by show(intsOf _).map PK.bN=_;rw[rQ];rfl
theorem Cx{k:PK}(h:jT k=true):∃l,k=.bN l:=by
 cases k with
 |bN l=>exact⟨l,rfl⟩
 |int=>cases h
 |str=>cases h
theorem XN:∀{es:List (PK×PV)},es.all (λ p=>jT p.1)=true->es.all (λ p=>!jU p.1)=true
 |[],_=>rfl
 |(.bN _,_)::es,h=>F0.mpr ⟨rfl,XN (F0.mp h).2⟩
theorem MZ{k:PK}{v:PV}:∀{es:List (PK×PV)},es.lookup k=some v->(k,v)∈es
 |p::es,h=>by
  rw[I1]at h
  split at h
  ·rename_i e;cases h;rw[eq_of_beq e];exact .head _
  ·exact .tail _ (MZ h)
theorem NC{p:PK×PV}:∀{es:List (PK×PV)},p∈es->∃v,es.lookup p.1=some v
 |q::es,h=>by
  rw[I1]
  split
  ·exact⟨_,rfl⟩
  ·rename_i e
   exact NC ((F8.mp h).resolve_left λ h=>by rw[h,O2]at e;cases e)
structure MI(G:Gr)(S:List St)(ms:List (PK×PV)):Prop where
 ix:∀i r,i<S.length->r∈(S.getD i aB).iX->∃k,k<2^G.tc∧ms.lookup (k2 i r)=some (C0 k)
 kt:ms.all (λ p=>jT p.1)=true
def UT(σ:PH)(a:Addr)(N:Nat)(rw:Nat->Addr×List Nat):Prop:=σ a=some (.list ((List.range N).map λ i=>.ref (rw i).1))∧∀i,i<N->σ (rw i).1=some (.list ((rw i).2.map C0))∧∀y∈(rw i).2,y<N
section
variable{W:Wd}(P:dR W){n:Nat}{σ:PH}{x la fa:Addr}{S:List St}{G:Gr}{Q:PV->PH->Prop}{ls:List (PK×PV)}{m N b:Nat}{A:List Addr}{fm:List Nat}
include P
theorem ZT(f1:fld σ (.ref x) "lookback"=some (.ref la))(f2:fld σ (.ref x) "follow_masks"=some (.ref fa))(hl:σ la=some (.dict ls m))(hf:σ fa=some (.list (fm.map C0)))(K:Gk S (λ i _=>i<S.length) b A ls)(hb:b<=491520)(hz:fm.length=N)(hN:N<=327680)(hm:∀d∈fm,d<2^G.tc)
  (hr:∀a∈A,∃l:List Nat,σ a=some (.list (l.map C0))∧l.Nodup∧∀y∈l,y<N)(q:∀c B9 ms m',Ext σ B9->σ c=none->B9 c=some (.dict ms m')->MI G S ms->Q (.ref c) B9):J9 W (n+1) (.ref 480) [.ref x] σ Q:=by
 refine P.fn cQ 38 rfl (ρ:=[.ref x,.M7,.M7,.M7,.M7]) rfl (K1 (dS (Led.start σ) λ c aL L1=>?_))
 let F:(Nat->PV)->List PV:=λ v=>[.ref x,.ref c,v 2,v 3,v 4]
 have lz:ls.length<=2^24:=A9 K.el (A9 hb (by decide))
 refine eZ F (l:=ls) (f:=λ p=>p.1.pv) (v:=.ref la) (λ pre _ B9=>∃ms m',Led σ B9 [(c,.dict ms m')] []∧ms.all (λ p=>jT p.1)=true∧ms.length<=pre.length∧∀p∈pre,∃k,k<2^G.tc∧ms.lookup p.1=some (C0 k)) rfl (D8 rfl (U8 L1.ext f1)) (yX (L1.ext _ _ hl) (XN K.kt) rfl lz) ⟨[],0,L1,rfl,D7 _,λ _ h=>nomatch h⟩ ?_ ?_
 ·intro pre p post u W9 R fN hQ;intros hQ ms m' hZ;delta hZ L k1 k2 k3;intro hR
  have hZ:=P5 fN;delta hZ Hx hp
  clear P hb fN post;obtain⟨pk,pw⟩:=p
  refine A0 (Cx (G3.mp K.kt _ hp)) λ tl hZ=>?_;obtain rfl:=hZ
  refine A0 (NC hp) λ v hv=>?_
  refine A0 (K.vl _ (MZ hv)) λ a hZ=>?_;generalize hZ.1=ha;obtain rfl:=hZ.2;try clear hZ
  refine A0 (hr a ha) λ l hZ=>?_;delta hZ h1 h2 h3
  let F1:(Nat->PV)->List PV:=λ v=>[.ref x,.ref c,.tup (tl.map .int),v 3,v 4]
  refine P3 rfl (eZ F1 (l:=l) (f:=C0) (v:=.ref a) (λ _ v B9=>B9=W9∧∃k,v 3=C0 k∧k<2^G.tc) rfl (I8 (D8 rfl (U8 L.ext f1)) rfl ((bE (L.ext _ _ hl) (QJ tl)).trans hv)) (V6 (L.ext _ _ h1) (GW (Y3 h2 h3) (A9 hN (by decide)))) ⟨rfl,0,rfl,Z8 _⟩ ?_ ?_)
  ·intro Pu y iI u2 _ R2 ai hQ;obtain rfl:=hQ.1;refine A0 hQ.2 λ k Q0=>?_;delta Q0 e3 hk;try clear hQ;intro bS
   have hy:=hz.symm▸h3 y (P5 ai).2
   exact K1 (O6 (P2 (rI e3 rfl) (P2 (I8 (D8 rfl (U8 L.ext f2)) rfl (W8 0 (L.ext _ _ hf) hy)) (uI (s_end (bS .next _ _ trivial rfl ⟨rfl,_,rfl,Z5 hk (hm _ (B5 (W5 0 hy)))⟩ rfl))))))
  ·intro u2 _ hQ;obtain rfl:=hQ.1;refine A0 hQ.2 λ k Q0=>?_;delta Q0 e3 hk;try clear hQ
   refine rG 0 (x:=C0 k) L rfl (rI e3 rfl) rfl rfl (QJ tl) k1 (H8 k2 (D1 Hx lz)) λ m3 Y9 _ L3=>s_end (hR .next _ _ trivial ((L3.ext _ _ hl).trans (L1.ext _ _ hl).symm) ⟨_,m3,L3,tN k1 rfl,A9 tM (by rw[B0];exact O1 k2),λ p' y6=>?_⟩ rfl)
   rw[vC]
   split
   ·exact⟨k,hk,rfl⟩
   ·rename_i ne
    exact k3 p' ((G9.mp y6).resolve_right λ h=>ne (by rw[D5.mp h]))
 ·intro u W9 hQ;intros hQ ms m' hZ;delta hZ L k1 k2 k3
  exact X8 rfl (q c W9 ms m' L.ext (L.new _ (.head _)) (L.get 0 rfl) ⟨λ i r hi hr=>let⟨a,_,h⟩:=K.ix i r hi hr;k3 _ (MZ h),k1⟩)
end
structure Fr where
 a:Addr
 x:Nat
 h:Nat
 k:Nat
abbrev Uj(l:List Fr):List (Addr×PO):=l.map λ f=>(f.a,.list [C0 f.x,C0 f.h,C0 f.k])
abbrev Dq(l:List Fr):List PV:=l.map λ f=>.ref f.a
theorem ZG{l:List Nat}{y v:Nat}(hv:v≠0)(h:y<l.length)(e:l.getD y 0=0):(l.set y v).count 0+1=l.count 0:=by
 induction l generalizing y with
 |nil=>exact absurd h (Z9 y)
 |cons b r ih=>
  cases y with
  |zero=>have e:b=0:=e;clear e h;subst e;rw[List.set_cons_zero,List.count_cons_of_ne hv,List.count_cons_self]
  |succ y=>rw[gD,List.count_cons,List.count_cons,<-ih (Nat.lt_of_succ_lt_succ h) e,Nat.add_right_comm]
theorem ZF{l:List Nat}{y v:Nat}(hv:v≠0):(l.set y v).count 0<=l.count 0:=by
 induction l generalizing y with
 |nil=>exact D7 _
 |cons b r ih=>
  cases y with
  |zero=>rw[List.set_cons_zero,List.count_cons_of_ne hv];exact List.count_le_count_cons ..
  |succ y=>rw[gD,List.count_cons,List.count_cons];exact Nat.add_le_add_right ih _
structure Dh(N B:Nat)(res lP:List Nat):Prop where
 rl:res.length=N
 rb:∀d∈res,d<B
 hl:lP.length=N
structure Df(N:Nat)(wd:Nat->Nat)(z:Nat)(U2:List Nat)(fr:List Fr):Prop where
 pl:∀x∈U2,x<N
 z1:U2.length+z<=N
 z2:fr.length+z<=N
 fx:∀f∈fr,f.x<N∧1<=f.h∧U2[f.h - 1]? =some f.x∧f.k<=wd f.x
 inc:(fr.map (·.h)).Pairwise (·<·)
theorem Df.BK{N:Nat}{wd:Nat->Nat}{z:Nat}{U2:List Nat}{fr:List Fr}(D:Df N wd z U2 fr){f:Fr}(hf:f∈fr):f.h<=U2.length:=by
 have hZ:=D.fx f hf;delta hZ hZ h1 h2
 have:=(D3.mp h2).1
 exact(Nat.sub_add_cancel h1)▸this
theorem Df.push{N:Nat}{wd:Nat->Nat}{z:Nat}{U2:List Nat}{fr:List Fr}(D:Df N wd (z+1) U2 fr){y:Nat}(hy:y<N)(a:Addr):Df N wd z (U2++[y]) (fr++[⟨a,y,U2.length+1,0⟩]):=by
 refine⟨T8 D.pl hy,by rw[B0];exact Nat.add_right_comm .. ▸D.z1,by rw[B0];exact Nat.add_right_comm .. ▸D.z2,T8 (λ f hf=>?_) ⟨hy,O1 (K3 _),by show(U2++[y])[U2.length]? =_;rw[N2 (D7 _),hU];rfl,K3 _⟩,?_⟩
 ·have hZ:=D.fx f hf;delta hZ h1 h2 h3 h4
  exact⟨h1,h2,by rw[I4 (D3.mp h3).1];exact h3,h4⟩
 ·rw[C1]
  refine List.pairwise_append.mpr ⟨D.inc,List.pairwise_singleton ..,λ a ha b hb=>?_⟩
  refine A0 (D2.mp ha) λ f hZ=>?_;generalize hZ.1=hf;clear ha;obtain rfl:=hZ.2;try clear hZ
  rewrite[D5.mp hb]
  exact hX (D.BK hf)
theorem Df.step{N:Nat}{wd:Nat->Nat}{z z':Nat}{U2:List Nat}{fs:List Fr}{f:Fr}(D:Df N wd z U2 (fs++[f]))(hk:f.k+1<=wd f.x)(hz:z'<=z):Df N wd z' U2 (fs++[⟨f.a,f.x,f.h,f.k+1⟩]):=by
 refine⟨D.pl,A9 (bW hz _) D.z1,A9 (bW hz _) (by have:=D.z2;rwa [B0]at this ⊢),T8 (λ g hg=>D.fx g (H0 _ hg)) ?_,?_⟩
 ·have hZ:=D.fx f (G4 _ (.head _));delta hZ h1 h2 h3
  exact⟨h1,h2,h3,hk⟩
 ·have:=D.inc
  rw[C1]at this ⊢
  exact this
theorem Df.pop{N:Nat}{wd:Nat->Nat}{z z':Nat}{U2 gP:List Nat}{fs:List Fr}{f:Fr}(D:Df N wd z U2 (fs++[f]))(p:gP<+:U2)(hp:f.h<=gP.length+1)(hz:z'<=z):Df N wd z' gP fs:=by
 have i:=D.inc
 rw[C1]at i
 refine⟨λ x hx=>D.pl x (p.subset hx),A9 (S0 p.length_le hz) D.z1,A9 (S0 (by rw[B0];exact J6 ..) hz) D.z2,λ g hg=>?_,(List.pairwise_append.mp i).1⟩
 have hZ:=D.fx g (H0 _ hg);delta hZ h1 h2 h3 h4
 have lt:g.h<f.h:=(List.pairwise_append.mp i).2.2 _ (J2 hg) _ (.head _)
 have:g.h - 1<gP.length:=D1 (Nat.sub_lt h2 (by decide)) (Nat.le_of_lt_succ (D1 lt hp))
 exact⟨h1,h2,by intros p t hZ;clear D;obtain rfl:=hZ;rw[I4 this]at h3;exact h3,h4⟩
def Bc(wd:Nat->Nat)(fr:List Fr):Nat:=(fr.map λ f=>wd f.x+1 - f.k).sum
theorem sO(wd:Nat->Nat)(fs:List Fr)(f:Fr):Bc wd (fs++[f])=Bc wd fs+(wd f.x+1 - f.k):=by unfold Bc;rw[C1,List.sum_append];rfl
theorem DX{σ:PH}{a:Addr}{xs:List PV}{x:PV}(h:σ a=some (.list (xs++[x]))):gE σ (.ref a) (.int (-1))=some x:=by
 show cG _ _ (σ a)=_
 rw[h]
 show xQ (xs++[x]) (-1)=_
 unfold xQ
 have e:(((xs++[x]).length:Nat):Int)+ -1=xs.length:=by rw[B0];exact Int.add_neg_cancel_right (xs.length:Int) 1
 rw[G0 (by decide),e,F7 (G6 _),bA,N2 (D7 _),hU]
 rfl
theorem Led.pull{C8 σ:PH}{L R:List (Addr×PO)}{p:Addr×PO}(h:Led C8 σ L (R++[p])):Led C8 σ (L++[p]) R:=h.perm (by rw[C6];exact jG L List.perm_append_comm)
theorem Led.give{C8 σ:PH}{L R:List (Addr×PO)}{p:Addr×PO}(h:Led C8 σ (L++[p]) R):Led C8 σ L (R++[p]):=h.perm (by rw[C6];exact jG L List.perm_append_comm)
theorem Ig{W:Wd}{n:Nat}{σ:PH}{ρ:List PV}{r b:V0}{K:Fl->List PV->PH->Prop}{c:PE}{β:Type}(F:(Nat->PV)->List PV)(m:β->Nat)(I:β->(Nat->PV)->PH->Prop)(t:β->Bool)(y:β)(HC:ρ=F (lo ρ))(h0:I y (lo ρ) σ)(ht:∀y u σ,I y u σ->pt σ (F u) c=some (t y))
  (hs:∀y u σ (R:Fl->List PV->PH->Prop),I y u σ->t y=true->(∀fl O5 B9 y',fl.go->m y'<m y->I y' (lo O5) B9->O5=F (lo O5)->R fl O5 B9)->S8 W tb n b (F u) σ R)(hk:∀y u σ,I y u σ->t y=false->S8 W tb n r (F u) σ K):S8 W tb n (.cons (.IB c b) r) ρ σ K:=
 PM (I:=λ k ρ σ=>ρ=F (lo ρ)∧∃y,k=m y∧I y (lo ρ) σ) (m y) ⟨HC,y,rfl,h0⟩ λ k ρ σ R Iy hR=>by
  generalize Iy.1=e1;refine A0 Iy.2 λ y Q0=>?_;delta Q0 e2 i;try clear Iy
  subst e2
  rw[e1]
  refine uT (ht y _ σ i) ?_
  cases e:t y
  ·exact hk y _ σ i e
  ·exact hs y _ σ R i e λ fl O5 B9 y' g l i' e'=>hR fl _ B9 _ g l ⟨e',y',rfl,i'⟩
abbrev dL(c3 ct c4 c6:Addr)(res lP U2:List Nat)(X:List (Addr×PO)):List (Addr×PO):=(c3,.list (res.map C0))::(ct,.list [.int 0])::(c4,.list (lP.map C0))::(c6,.list (U2.map C0))::X
theorem ZD{C8 σ:PH}{c3 ct c4 c6:Addr}{res lP U2:List Nat}{X R:List (Addr×PO)}{i v:Nat}(L:Led C8 σ ((c3,.list ((res.map C0).set i (C0 v)))::(ct,.list [.int 0])::(c4,.list (lP.map C0))::(c6,.list (U2.map C0))::X) R):Led C8 σ (dL c3 ct c4 c6 (res.set i v) lP U2 X) R:=by unfold dL;rw[iB];exact L
theorem ZE{C8 σ:PH}{c3 ct c4 c6:Addr}{res lP U2:List Nat}{X R:List (Addr×PO)}{i v:Nat}(L:Led C8 σ ((c3,.list (res.map C0))::(ct,.list [.int 0])::(c4,.list ((lP.map C0).set i (C0 v)))::(c6,.list (U2.map C0))::X) R):Led C8 σ (dL c3 ct c4 c6 res (lP.set i v) U2 X) R:=by unfold dL;rw[iB];exact L
theorem WM{W:Wd}{n:Nat}{C8 σ:PH}{ρ:List PV}{r:V0}{K:Fl->List PV->PH->Prop}{c3 ct c4 c6:Addr}{res lP U2:List Nat}{X R:List (Addr×PO)}{i y:Nat}(h4:∀σ,pv σ ρ (.loc 4)=some (.ref c4))(h6:∀σ,pv σ ρ (.loc 6)=some (.ref c6))(hi:∀σ,pv σ ρ (.loc i)=some (C0 y))
  (L:Led C8 σ (dL c3 ct c4 c6 res lP U2 X) R)(hz:U2.length<=327680)(hy:y<lP.length)(k:∀B9,Led C8 B9 (dL c3 ct c4 c6 res (lP.set y (U2.length+1)) (U2++[y]) X) R->S8 W tb n r ρ B9 K):
  S8 W tb n (.cons (.expr (.H2 (.loc 6) "append" (.cons (.loc i) .nil))) (.cons (.aN (.loc 4) (.loc i) (.call 1 (.builtin "len") (.cons (.loc 6) .nil))) r)) ρ σ K:=
 N4 (aH 3 (x:=C0 y) L rfl (h6 _) (hi _) (GW hz (by decide)) λ eM _ L6=>mX 2 L6 rfl (x:=C0 (U2.length+1)) (V8 (h6 _) (len_list (L6.get 3 rfl) (by rw[B0,A8];rfl))) (h4 _) (hi _) (Cr rfl hy) λ eX _ L7=>k _
  (US (C:=λ z=>Led C8 eX (_::_::(c4,.list (List.map C0 (lP.set y (U2.length+1))))::(c6,.list z)::X) R) y (VW (C:=λ z=>Led C8 eX (_::_::(c4,.list z)::_) R) y (U2.length+1) L7)))
theorem PI{α:Type}{l:List α}(h:l≠[]):∃k x,l=k++[x]:=⟨_,_,(List.dropLast_concat_getLast h).symm⟩
section
variable{W:Wd}(P:dR W){n N T b:Nat}{σ:PH}{rl ml:Addr}{rw:Nat->Addr×List Nat}{ms:List Nat}{Q:PV->PH->Prop}
include P
theorem FK(hN:N<=327680)(hr:UT σ rl N rw)(hb:∀i,i<N->(rw i).2.length<=b)(hm:σ ml=some (.list (ms.map C0)))(zm:ms.length=N)(bm:∀d∈ms,d<2^T)
  (q:∀c B9 (rs:List Nat),Ext σ B9->σ c=none->rs.length=N->(∀d∈rs,d<2^T)->B9 c=some (.list (rs.map C0))->Q (.ref c) B9):J9 W (n+1) (.ref 433) [C0 N,.ref rl,.ref ml] σ Q:=by
 have Ny:N<=16777216:=A9 hN (by decide)
 refine P.fn EG 32 rfl (ρ:=[C0 N,.ref rl,.ref ml,.M7,.M7,.M7,.M7,.M7,.M7,.M7,.M7,.M7,.M7]) rfl (K1 (H7 rfl (HR (Led.start σ) hm (lz zm Ny) λ c3 aL _ L1=>K1 (O6 (K7 L1 rfl λ ct W9 L2=>P2 rfl (CF L2 (L2.get 1 rfl) Ny λ c4 Y9 L3=>P3 rfl (K1 (K7 L3 rfl λ c6 bM L4=>?_))))))))
 replace L4:Led σ bM (dL c3 ct c4 c6 ms (List.replicate N 0) [] []) []:=by show Led _ _ (_::_::(c4,.list (List.map C0 (List.replicate N 0)))::_) _;rw[nW];exact L4
 let wd:Nat->Nat:=λ i=>(rw i).2.length
 let F:(Nat->PV)->List PV:=λ v=>[C0 N,.ref rl,.ref ml,.ref c3,.ref c4,C0 (N+1),.ref c6,v 7,v 8,v 9,v 10,v 11,v 12]
 have cl:∀{l:List Nat},l.length=N->l.count 0<=N:=λ e=>e▸List.count_le_length
 refine Z2 (H7 rfl (aQ (Z1 F (λ _ _ B9=>∃res lP U2,Dh N (2^T) res lP∧Df N wd (lP.count 0) U2 []∧Led σ B9 (dL c3 ct c4 c6 res lP U2 []) []) rfl (fJ Ny) ⟨ms,List.replicate N 0,[],⟨zm,bm,K8⟩,⟨λ _ h=>(nomatch h),(Y4 _).symm▸cl K8,(Y4 _).symm▸cl K8,λ _ h=>(nomatch h),.nil⟩,L4⟩ ?_ ?_)))
 ·intro pre s post u cI R hl hQ;intros hQ res lP U2 hZ;delta hZ H D L;intro hR
  have hs:=(P9 hl).2
  have Lb:=H.hl.symm▸hs
  refine dA (t:=!decide (((lP.getD s 0:Nat):Int)=0)) (N3 (I8 rfl rfl (W8 0 (L.get 2 rfl) Lb)) rfl rfl) (λ _=>MH (hR .cont _ _ trivial trivial ⟨res,lP,U2,H,D,L⟩ rfl)) λ h0=>?_
  have cz:=ZG (v:=U2.length+1) (Nat.succ_ne_zero _) Lb (qH.mp (D0 (Qc h0)))
  have pz:U2.length<=327680:=A9 (A9 (J6 ..) D.z1) hN
  rw[<-cz]at D
  refine O7 (WM (λ _=>rfl) (λ _=>rfl) (λ _=>rfl) L pz Lb λ eM L=>K1 (bQ (F9 (uQ (I9 rfl (I9 (V8 rfl (len_list (L.get 3 rfl) ((A8 ..).trans B0))) (p1 rfl))) λ a ha=>M0 λ c8 Uf=>?_))))
  have L:=(L.wH ha (.list [C0 s,C0 (U2.length+1),C0 0])).alloc Uf (.list [.ref a])
  generalize PH.set _ c8 _=eX at L ⊢
  let F1:(Nat->PV)->List PV:=λ v=>[C0 N,.ref rl,.ref ml,.ref c3,.ref c4,C0 (N+1),.ref c6,C0 s,.ref c8,v 9,v 10,v 11,v 12]
  refine Ig (β:=List Nat×List Nat×List Nat×List Fr) F1 (λ y=>y.2.1.count 0*(b+2)+Bc wd y.2.2.2) (λ y _ B9=>Dh N (2^T) y.1 y.2.1∧Df N wd (y.2.1.count 0) y.2.2.1 y.2.2.2∧Led σ B9 (dL c3 ct c4 c6 y.1 y.2.1 y.2.2.1 [(c8,.list (Dq y.2.2.2))]) (Uj y.2.2.2)) (λ y=>!(Dq y.2.2.2).isEmpty)
   (res,lP.set s (U2.length+1),U2++[s],[⟨a,s,U2.length+1,0⟩]) rfl ⟨⟨H.rl,H.rb,(P0 ..).trans H.hl⟩,D.push hs a,L⟩ ?_ ?_ ?_
  ·intro y u σ hQ;delta hQ hQ hQ L
   show iK _ _ (σ c8)=_
   rw[L.get 4 rfl];rfl
  ·clear L H D pz cz Lb h0 hR
   intro hQ;clear L1 L2 L3 L4 P bm cl Ny Uf hm hs zm W9 Y9 bM;obtain⟨res,lP,U2,fr⟩:=hQ;intro u qC R TO;delta TO H D L;intro ht hR
   obtain⟨fs,f,rfl⟩:=PI (l:=fr) λ e=>by rw[e]at ht;cases ht
   have hZ:=D.fx f (G4 _ (.head _));delta hZ fx f1 f2 f3
   have Xu:=H.hl.symm▸fx
   have Xs:=H.rl.symm▸fx
   have L:Led σ qC (dL c3 ct c4 c6 res lP U2 [(c8,.list (Dq fs++[PV.ref f.a])),(f.a,.list [C0 f.x,C0 f.h,C0 f.k])]) (Uj fs):=by
    have L':Led σ qC (dL c3 ct c4 c6 res lP U2 [(c8,.list (List.map _ (fs++[f])))]) (List.map _ (fs++[f])):=L
    rw[C1,C1]at L'
    exact L'.pull
   have fz:fs.length<327680:=by have:=D.z2;rw[B0]at this;exact D1 (D1 (K5 _) (J6 ..)) (A9 this hN)
   have pz:U2.length<=327680:=A9 (A9 (J6 ..) D.z1) hN
   have La:=I0 (L.ext _ _ hr.1) (V5 (f:=λ i=>PV.ref (rw i).1) (bX fx))
   have DG:=L.ext _ _ (hr.2 f.x fx).1
   refine P3 (I8 rfl rfl (DX (L.get 4 rfl))) (P3 (I8 rfl rfl (I0 (k:=0) (L.get 5 rfl) rfl)) (dA (t:=decide ((f.k:Int)<((rw f.x).2.length:Int))) (N3 (I8 rfl rfl (I0 (k:=2) (L.get 5 rfl) rfl)) (V8 (I8 rfl rfl La) (len_list DG (A8 ..))) rfl) (λ lt=>?_) λ _=>O7 ?_))
   ·have lt:=T7.mp (D0 lt)
    have hy:=(hr.2 f.x fx).2 _ (B5 (W5 0 lt))
    refine P3 (I8 (I8 rfl rfl La) (I8 rfl rfl (I0 (k:=2) (L.get 5 rfl) rfl)) (W8 0 DG lt)) ?_
    generalize (rw f.x).2.getD f.k 0=y at hy
    have Ky:=H.hl.symm▸hy
    have Tt:=H.rl.symm▸hy
    refine dA (t:=decide (((lP.getD y 0:Nat):Int)=0)) (N3 (I8 rfl rfl (W8 0 (L.get 2 rfl) Ky)) rfl rfl) (λ h0=>?_) λ h0=>?_
    ·have cz:=ZG (v:=U2.length+1) (Nat.succ_ne_zero _) Ky (qH.mp (D0 h0))
     rw[<-cz]at D hR
     refine WM (λ _=>rfl) (λ _=>rfl) (λ _=>rfl) L pz Ky λ eM L=>N4 (T0 rfl (N9 (L.get 4 rfl) _) (F9 (uQ (I9 rfl (I9 (V8 rfl (len_list (L.get 3 rfl) ((A8 ..).trans B0))) (p1 rfl))) λ a ha=>M0 ?_)))
     have L:=(Led.give (L:=dL c3 ct c4 c6 res (lP.set y (U2.length+1)) (U2++[y]) [(c8,.list (Dq fs++[PV.ref f.a]))]) L).wH ha (.list [C0 y,C0 (U2.length+1),C0 0])
     generalize PH.set _ a _=eX at L ⊢
     refine aX 4 L rfl ?_ λ qC _ L=>MH (hR .cont _ _ (res,lP.set y (U2.length+1),U2++[y],fs++[f]++[⟨a,y,U2.length+1,0⟩]) trivial ?_ ⟨⟨H.rl,H.rb,(P0 ..).trans H.hl⟩,D.push hy a,?_⟩ rfl)
     ·rw[B0,A8];exact A9 fz (by decide)
     ·show _*_+Bc wd (fs++[f]++[_])<(_+1)*_+Bc wd (fs++[f])
      rw[sO wd (fs++[f])]
      have:=hb y hy
      show _+(_+((rw y).2.length+1))<_
      lia
     ·show Led σ qC (dL _ _ _ _ _ _ _ [(c8,.list (List.map _ (fs++[f]++[_])))]) (List.map _ (fs++[f]++[_]))
      rw[C1,C1,C1,C1]
      exact L
    ·refine mX 5 L rfl (x:=C0 (f.k+1)) (jK (I8 rfl rfl (I0 (k:=2) (L.get 5 rfl) rfl)) rfl rfl) rfl rfl (C3 rfl) λ eM _ L=>?_
     refine oT (λ O5 B9=>O5=[C0 N,.ref rl,.ref ml,.ref c3,.ref c4,C0 (N+1),.ref c6,C0 s,.ref c8,.ref f.a,C0 f.x,C0 y,u 12]∧∃pB,pB.length=N∧pB.count 0<=lP.count 0∧Led σ B9 (dL c3 ct c4 c6 res pB U2 [(c8,.list (Dq fs++[PV.ref f.a])),(f.a,.list [C0 f.x,C0 f.h,C0 (f.k+1)])]) (Uj fs)) ?_
      λ R1 yF=>uT (N3 (I8 rfl rfl (W8 0 (L.get 2 rfl) Ky)) (I8 rfl rfl (W8 0 (L.get 2 rfl) Xu)) rfl) ⟨λ _=>mX 2 L rfl (x:=C0 (lP.getD y 0)) (I8 rfl rfl (W8 0 (L.get 2 rfl) Ky)) rfl rfl (Cr H.hl fx) λ eX _ L=>s_end (yF _ _ ⟨rfl,lP.set f.x (lP.getD y 0),(P0 ..).trans H.hl,ZF λ e=>K6 h0 (C7 Int.ofNat e),ZE L⟩),λ _=>s_end (yF _ _ ⟨rfl,lP,H.hl,D7 _,L⟩)⟩
     intro _ eX hQ;obtain rfl:=hQ.1;refine A0 hQ.2 λ pB Q0=>?_;delta Q0 z1 z2 L;try clear hQ
     refine mX 0 L rfl (x:=C0 (res.getD f.x 0|||res.getD y 0)) (jK (I8 rfl rfl (W8 0 (L.get 0 rfl) Xs)) (I8 rfl rfl (W8 0 (L.get 0 rfl) Tt)) (C7 (λ z=>some (PV.int z)) (wG _ _))) rfl rfl (Cr H.rl fx) λ qC _ L=>MH (hR .cont _ _ (res.set f.x (res.getD f.x 0|||res.getD y 0),pB,U2,fs++[⟨f.a,f.x,f.h,f.k+1⟩]) trivial
      (Nat.add_lt_add_of_le_of_lt (Nat.mul_le_mul_right _ z2) (by show Bc wd _<Bc wd _;rw[sO,sO];exact Nat.add_lt_add_left (Nat.sub_lt_sub_left (dJ lt) (K5 _)) _)) ⟨⟨(P0 ..).trans H.rl,λ d hd=>(aU hd).elim (H.rb d) λ e=>e▸Z5 (H.rb _ (B5 (W5 0 Xs))) (H.rb _ (B5 (W5 0 Tt))),z1⟩,D.step lt z2,?_⟩ rfl)
     show Led σ qC (dL _ _ _ _ _ _ _ [(c8,.list (List.map _ (fs++[_])))]) (List.map _ (fs++[_]))
     rw[C1,C1]
     exact Led.give (L:=dL c3 ct c4 c6 (res.set f.x (res.getD f.x 0|||res.getD y 0)) pB U2 [(c8,.list (Dq fs++[PV.ref f.a]))]) (ZD L)
   ·refine N4 (J1 rfl (N9 (L.get 4 rfl) _) rfl (Hm (L.get 4 rfl) (by rw[A8];exact nN fz (by decide)) ?_))
    have L:=L.set 4 rfl (.list (Dq fs))
    generalize qC.set c8 _=eM at L ⊢
    let F2:(Nat->PV)->List PV:=λ v=>[C0 N,.ref rl,.ref ml,.ref c3,.ref c4,C0 (N+1),.ref c6,C0 s,.ref c8,.ref f.a,C0 f.x,v 11,v 12]
    let I:List Nat->List Nat->List Nat->PH->Prop:=λ zW pB gP B9=>Dh N (2^T) zW pB∧pB.count 0<=lP.count 0∧gP<+:U2∧Led σ B9 (dL c3 ct c4 c6 zW pB gP [(c8,.list (Dq fs)),(f.a,.list [C0 f.x,C0 f.h,C0 f.k])]) (Uj fs)
    have BK:=D.BK (G4 fs (.head _))
    refine oT (λ O5 B9=>O5=F2 (lo O5)∧∃zW pB gP,I zW pB gP B9∧f.h<=gP.length+1) ?_ λ R1 yF=>uT (N3 (I8 rfl rfl (W8 0 (L.get 2 rfl) Xu)) (I8 rfl rfl (I0 (k:=1) (L.get 5 rfl) rfl)) rfl) ⟨λ _=>P3 rfl ?_,λ _=>s_end (yF _ _ ⟨rfl,res,lP,U2,⟨H,D7 _,sJ _,L⟩,Z6 BK⟩)⟩
    ·intro O5 eX hQ;generalize hQ.1=e;refine ee3.e hQ.2 λ zW pB gP Q0=>?_;generalize Q0.1=fU;delta fU H' z' p' L';delta Q0 Q0 hh;try clear hQ
     rw[e]
     refine s_end (hR .next _ _ (zW,pB,gP,fs) trivial ?_ ⟨H',D.pop p' hh z',Led.drop (L:=dL c3 ct c4 c6 zW pB gP [(c8,.list (Dq fs))]) L'⟩ rfl)
     refine Nat.add_lt_add_of_le_of_lt (Nat.mul_le_mul_right _ z') ?_
     show Bc wd _<Bc wd _
     rw[sO]
     exact gK (Nat.sub_pos_of_lt (hX f3))
    ·refine Ig (β:=Int×List Nat×List Nat×List Nat) F2 (λ y=>y.2.2.2.length) (λ y v B9=>v 12=.int y.1∧I y.2.1 y.2.2.1 y.2.2.2 B9∧(f.h<=y.2.2.2.length∨(y.1=f.x∧f.h<=y.2.2.2.length+1))) (λ y=>!decide (y.1=(f.x:Int))) (-1,res,lP,U2) rfl ⟨rfl,⟨H,D7 _,sJ _,L⟩,.inl BK⟩
      (λ y v B9 h=>N3 (rI h.1 rfl) rfl rfl) ?_ λ y v B9 ⟨_,i,d⟩ ht=>s_end (yF _ _ ⟨rfl,_,_,_,i,d.elim Z6 (·.2)⟩)
     intro hQ;clear f3 Xu Xs fz hN yF ha hb BK hr DG La;clear hR L ht H;obtain⟨z,zW,pB,gP⟩:=hQ;intro v eX R2 TO;generalize TO.1=cu;generalize TO.2=Q0;delta Q0 H' z' p' L';delta TO TO TO d;intro ht bS
     have hp:f.h<=gP.length:=d.resolve_right λ e=>K6 (WX ht) e.1
     clear R1 a cu;clear L ht;obtain⟨p2,y,rfl⟩:=PI (l:=gP) λ e=>by rw[e]at hp;exact absurd (A9 f1 hp) (Nat.not_succ_le_zero 0)
     have hy:=D.pl y (p'.subset (G4 _ (.head _)))
     have pl:=p'.length_le
     rw[B0]at pl hp
     have Tl:p2.length<327680:=D1 pl pz
     refine K1 (J1 rfl (N9 (L'.get 3 rfl) _) rfl (Hm (xs:=p2.map C0) (y:=C0 y) ((L'.get 3 rfl).trans (by rw[C1];rfl)) (by rw[A8];exact nN Tl (by decide)) ?_))
     have L:=L'.set 3 rfl (.list (p2.map C0))
     generalize eX.set c6 _=qC at L ⊢
     refine mX 2 L rfl (x:=C0 (N+1)) rfl rfl rfl (Cr H'.hl hy) λ IG _ L=>mX 0 (ZE L) rfl (x:=C0 (zW.getD f.x 0)) (I8 rfl rfl (W8 0 (L.get 0 rfl) (H'.rl.symm▸fx))) rfl rfl (Cr H'.rl hy) λ iW _ L=>s_end (bS .next _ _ ((y:Int),zW.set y (zW.getD f.x 0),pB.set y (N+1),p2) trivial (by show p2.length<(p2++[y]).length;rw[B0];exact K5 _)
      ⟨rfl,⟨⟨(P0 ..).trans H'.rl,λ d hd=>(aU hd).elim (H'.rb d) λ e=>e▸H'.rb _ (B5 (W5 0 (H'.rl.symm▸fx))),(P0 ..).trans H'.hl⟩,A9 (ZF (Nat.succ_ne_zero _)) z',(List.prefix_append ..).trans p',ZD L⟩,?_⟩ rfl)
     refine(Nat.lt_or_ge p2.length f.h).elim (λ c=>.inr ⟨?_,hp⟩) .inl
     have e:f.h=p2.length+1:=Nat.le_antisymm hp c
     intros p' t hZ;clear H' L' c d f1 fx bS hl hp hy Tl pl post pre pz v z' eX;clear D;obtain rfl:=hZ
     rw[e,C6]at f2
     have f2:(p2++y::t)[p2.length]? =some f.x:=f2
     rw[N2 (D7 _),hU]at f2
     exact C7 Int.ofNat (G8 f2)
  ·intro hQ;obtain⟨res,lP,U2,fr⟩:=hQ;intro u qC TO;delta TO H D L;intro ht
   have e:fr=[]:=by
    clear L D;cases fr with
    |nil=>rfl
    |cons=>cases ht
   clear ht;subst e
   exact s_end (hR .next _ _ trivial trivial ⟨res,lP,U2,H,D,Led.drop (L:=dL c3 ct c4 c6 res lP U2 []) L⟩ rfl)
 ·intro u cI hQ;intros hQ res lP U2 hZ;delta hZ H D L
  exact X8 rfl (q c3 cI res L.ext (L.new _ (.head _)) H.rl H.rb (L.get 0 rfl))
end
theorem Led.keep{C8 σ:PH}{L X R:List (Addr×PO)}(h:Led C8 σ (L++X) R){C:Prop}(k:∀τ,Ext C8 τ->Led τ σ L []->(∀r∈X++R,τ r.1=some r.2)->C):C:=by
 refine A0 (h.freeze (M:=L) (C6 .. ▸qZ ..)) λ τ hZ=>?_;delta hZ E L' hk
 refine k τ E L' λ r hr=>hk r (C6 .. ▸G4 _ hr) λ m=>?_
 have nd:=h.nd
 rw[C6,C1]at nd
 exact(O8.mp nd).2.2 _ m _ (J2 hr) rfl
theorem Led.fz{C8 σ:PH}{p q:Addr×PO}{L R:List (Addr×PO)}(h:Led C8 σ (p::q::L) R){C:Prop}(k:∀τ,Ext C8 τ->Led τ σ [p,q] []->(∀r∈L++R,τ r.1=some r.2)->C):C:=Led.keep (L:=[p,q]) (X:=L) h k
theorem Led.Ye{C8 σ:PH}{p q r s:Addr×PO}{A B:List (Addr×PO)}(h:Led C8 σ [p,q,r] (A++([s]++B))){C:Prop}(k:∀τ,Ext C8 τ->Led τ σ [p,q] (A++B)->τ r.1=some r.2->τ s.1=some s.2->C):C:=by
 have h':=h.perm (L':=[r,s,p,q]) (R':=A++B) ((List.Perm.append_right _ (List.perm_append_comm (l₁:=[r,s]) (l₂:=[p,q]))).trans (jG [p,q,r] (List.perm_middle (a:=s) (l₁:=A) (l₂:=B)).symm))
 refine A0 (h'.freeze (M:=[p,q]++(A++B)) (.cons _ (.cons _ (.refl _)))) λ τ hZ=>?_;delta hZ E L' hk
 have nd:(r.1::s.1::([p,q]++(A++B)).map (·.1)).Nodup:=h'.nd
 exact k τ E (L'.sub (L':=[p,q]) (by rw[C9];exact .refl _)) (hk _ (.head _) λ m=>(N7.mp nd).1 (.tail _ m)) (hk _ (.tail _ (.head _)) (N7.mp (N7.mp nd).2).1)
theorem UT.ext{σ B9:PH}(E:Ext σ B9){a:Addr}{N:Nat}{rw:Nat->Addr×List Nat}(h:UT σ a N rw):UT B9 a N rw:=⟨E _ _ h.1,λ i hi=>⟨E _ _ (h.2 i hi).1,(h.2 i hi).2⟩⟩
theorem Co(l k:List Addr):mB (l++k) (λ _=>[])=mB l (λ _=>[])++mB k λ _=>[]:=by
 have e:∀l:List Addr,mB l (λ _=>[])=l.map λ a=>(a,PO.list []):=λ l=>by
  refine iC λ i=>?_
  unfold mB
  rw[H9,H9,kK]
  cases l[i]? <;>rfl
 rw[e,e,e,C1]
section
variable{W:Wd}(P:dR W){n:Nat}{σ:PH}{g:Addr}{G:Gr}(hG:qA σ g G)(w:G.Wf){Q:PV->PH->Prop}
include P hG w
theorem NV(q:∀c B9 (fd:List Bool),Ext σ B9->σ c=none->fd.length=G.names.length->B9 c=some (.list (fd.map .bool))->Q (.ref c) B9):J9 W (n+2) (.ref 216) [.ref g] σ Q:=by
 refine P.fn zY 14 rfl (ρ:=[.ref g]) rfl (W3 (T5 (F9 (P2 rfl (F9 (O6 (K7 (Led.start σ) rfl λ ct aL L1=>J1 rfl ((hG.ext L1.ext).H2 "symbol_count" 122 (by simp)) rfl (pF (n:=n) P (hG.ext L1.ext) (CF L1 (L1.get 0 rfl) (A9 w.names (by decide)) λ c4 W9 L2=>M0 ?_)))))))))
 exact ZQ P (hG.ext L2.ext) w (bs:=List.replicate G.names.length false) (by rw[nW];exact L2.get 1 rfl) K8 (λ c B9 fd E hc=>q c B9 fd (L2.ext.trans E) (L2.ext.none hc))
end
section
variable{W:Wd}(P:dR W){n:Nat}{σ:PH}{g a t:Addr}{As:List SA}{S:List St}{G:Gr}{Q:PV->PH->Prop}(w:G.Wf)(hG:qA σ g G)(hA:KS σ a g t As S)(au:yL G S)
include P w hG hA au
theorem Mr(q:∀x B9 ma ms m',Ext σ B9->fld B9 (.ref x) "masks"=some (.ref ma)->B9 ma=some (.dict ms m')->MI G S ms->Q (.ref x) B9):J9 W (n+5) (.ref 490) [.ref a] σ Q:=by
 refine vR P 6 33 1 (r:=jI) rfl rfl (O5:=[.ref a,.M7]) (λ _=>rfl) (λ _=>rfl) λ x dx aL L=>?_
 refine Q9 rfl (H7 (p1 (D8 rfl ((hA.ext L.ext).ob.fld _))) (NV (n:=n+1) P (hG.ext L.ext) w λ nu W9 nb E hc hz hn=>?_))
 refine Led.fz (L.adopt E hc hn) λ τ E1 L gB=>?_
 clear hc hn
 have hn:=gB _ (.head _)
 have hG:=hG.ext E1
 have hA:=hA.ext E1
 refine aE L rfl (C3 rfl) λ Y9 L=>?_
 refine Q9 rfl (K7 L rfl λ ta bM L=>aE L rfl (C3 rfl) λ cI L=>?_)
 refine Q9 rfl (dS L λ ia eM L=>aE L rfl (C3 rfl) λ eX L=>?_)
 refine N4 (J1 rfl ((L.obj 0 1 rfl rfl).H2 "number_transitions" rfl rfl) rfl (Fo (n:=n+1) P w hG hA au P.ok rfl rfl rfl L λ tr es m qC T L=>?_))
 refine L.fz λ On E2 L gB=>?_
 have ht:=gB _ (.head _)
 have hi:=gB _ (.tail _ (.head _))
 have hn:=E2 _ _ hn
 have hG:=hG.ext E2
 have hA:=hA.ext E2
 refine Q9 rfl (K7 L rfl λ da IG L=>aE L rfl (C3 rfl) λ iW L=>?_)
 refine Q9 rfl (K7 L rfl λ ra oA L=>aE L rfl (C3 rfl) λ rB L=>?_)
 refine N4 (J1 rfl ((L.obj 0 1 rfl rfl).H2 "find_reads" rfl rfl) rfl (ZU (n:=n) P w hG hA au T hn hz ht hi rfl rfl rfl rfl rfl rfl L λ ds rows FS dz db rz rb L=>?_))
 refine L.fz λ UX E3 L gB=>?_
 have hd:=gB _ (.head _)
 have hr:UT UX ra tr.length (λ i=>rows.getD i (0,[])):=by
  refine⟨(gB _ (.tail _ (.head _))).trans (C7 (λ l=>some (PO.list l)) ?_),λ i h=>?_⟩
  ·show refs _=_
   rw[<-rz,refs]
   conv=>lhs;rw[zX (0,[]) rows,G2,G2]
   rfl
  ·have hm:=B5 (W5 (l:=rows) (0,[]) (rz.symm▸h))
   exact⟨gB _ (.tail _ (.tail _ (J2 (f:=λ p=>(p.1,PO.list (p.2.map C0))) hm))),(rb _ hm).2⟩
 have t7:∀i,i<tr.length->(rows.getD i (0,[])).2.length<=10:=λ i h=>(rb _ (B5 (W5 (l:=rows) (0,[]) (rz.symm▸h)))).1
 have ht:=E3 _ _ ht
 have hi:=E3 _ _ hi
 have hn:=E3 _ _ hn
 have hG:=hG.ext E3
 have hA:=hA.ext E3
 have zt:tr.length<=2^24:=A9 T.len (by decide)
 have it:=λ{B9} (E:Ext UX B9)=>V6 (σ:=B9) (E _ _ ht) ((A8 ..).symm▸zt)
 refine Q9 rfl (FT L (D8 rfl (L.self rfl)) (it L.ext) (λ y _=>⟨[y],rfl⟩) λ Ts Op l1 z1 L=>aE L rfl (C3 rfl) λ Iw L=>?_)
 refine Q9 rfl (FT (Led.start Iw) (D8 rfl (L.self rfl)) (it L.ext) (λ y _=>⟨[y],rfl⟩) λ Vk Oo l2 z2 L'=>aE (L.join L') rfl (C3 rfl) λ Bq L=>?_)
 refine Led.Ye L λ Om E4 L d5 Wr=>?_
 rw[<-Co]at L
 have ht:=E4 _ _ ht
 replace z1:=z1.trans (A8 ..)
 refine Q9 rfl (dS L λ la o4 L=>aE L rfl (C3 rfl) λ o3 L=>?_)
 refine N4 (J1 rfl ((L.obj 0 1 rfl rfl).H2 "find_includes" rfl rfl) rfl (Fu (n:=n) P w (hG.ext E4) (hA.ext E4) au T (E4 _ _ hn) hz ht (E4 _ _ hi) rfl rfl rfl rfl rfl rfl rfl rfl d5 Wr z1 (z2.trans (A8 ..)) L λ ls m3 A3 c o0 K hC L=>?_))
 refine L.fz λ k9 E5 L gB=>?_
 have hl:=gB _ (.head _)
 have DG:∀i a,(l1++l2++A3)[i]? =some a->k9 a=some (.list ((c i).map C0)):=λ i a h=>gB _ (.tail _ (B5 (aD h)))
 have ht:=E5 _ _ ht
 refine P3 (x:=C0 tr.length) (V8 (D8 rfl (L.self rfl)) (len_list (L.ext _ _ ht) (A8 ..))) ?_
 refine Q9 rfl (H7 (I9 rfl (I9 (D8 rfl (L.self rfl)) (p1 (D8 rfl (L.self rfl))))) (FK (n:=n+2) (T:=G.tc) P T.len (hr.ext ((E4.trans E5).trans L.ext)) t7 (L.ext _ _ (E5 _ _ (E4 _ _ hd))) dz db λ rm n9 rs E hc hz hb Wv=>?_))
 refine Led.fz (L.adopt E hc Wv) λ k8 E6 L gB=>?_
 have Wv:=gB _ (.head _)
 refine aE L rfl (C3 rfl) λ n8 L=>?_
 have hi:UT k8 Ts tr.length (λ i=>(l1.getD i 0,c i)):=by
  refine⟨(E6 _ _ (E5 _ _ d5)).trans (by rw[fH,z1]),λ i h=>⟨E6 _ _ (DG i _ ?_),(hC i).2⟩⟩
  rw[C6,I4 (z1.symm▸h)]
  exact W5 0 (z1.symm▸h)
 refine Q9 rfl (H7 (I9 rfl (I9 (D8 rfl (L.self rfl)) (p1 (D8 rfl (L.self rfl))))) (FK (n:=n+2) (T:=G.tc) P T.len (hi.ext L.ext) (λ i _=>Y3 (hC i).1 (hC i).2) (L.ext _ _ Wv) hz hb λ fm n0 fs E hc hz hb Xe=>?_))
 refine Led.fz (L.adopt E hc Xe) λ dj E7 L gB=>?_
 have Xe:=gB _ (.head _)
 have Yt:=E6.trans E7
 refine aE L rfl (C3 rfl) λ l9 L=>?_
 refine Q9 rfl (J1 rfl ((L.obj 0 1 rfl rfl).H2 "joined_masks" rfl rfl) rfl (ZT (n:=n+2) P (L.self rfl) (L.self rfl) (L.ext _ _ (Yt _ _ hl)) (L.ext _ _ Xe) K (D7 _) hz T.len hb (λ a ha=>?_) λ ma l3 ms m' E hc hm M=>aE (L.adopt E hc hm) rfl (C3 rfl) λ Uw L=>s_end ⟨rfl,q x Uw ma ms m' ((((((E1.trans E2).trans E3).trans E4).trans E5).trans Yt).trans L.ext) (L.self rfl) (L.get 2 rfl) M⟩))
 refine A0 (List.getElem?_of_mem (G4 (l1++l2) ha)) λ i hi=>?_
 exact⟨c i,L.ext _ _ (Yt _ _ (DG i a hi)),(hC i).1,(hC i).2⟩
theorem RV(q:∀ma B9 ms m',Ext σ B9->B9 ma=some (.dict ms m')->MI G S ms->Q (.ref ma) B9):J9 W (n+6) (.ref 508) [.ref a] σ Q:=
 P.fn tK 40 rfl (ρ:=[.ref a]) rfl (W3 (Jc (H7 rfl (Mr (n:=n) P w hG hA au λ x B9 ma ms m' E h1 h2 M=>⟨_,h1,q ma B9 ms m' E h2 M⟩))))
end
abbrev fR(l:List (Nat×Int)):List (PK×PV):=l.map λ p=>(PK.int (p.1:Int),.int p.2)
theorem fF(l:List (Nat×Int))(i:Int):U3 (.int i) (fR l)=true:=G3.mpr λ p hp=>by
 refine A0 (D2.mp hp) λ q hZ=>?_;clear hp;obtain rfl:=hZ.2;try clear hZ;rfl
theorem uW{k:Nat}:∀{l:List (Nat×Int)},(fR l).lookup (.int k)=(l.lookup k).map .int
 |[]=>rfl
 |p::l=>by
  show List.lookup (PK.int k) ((PK.int p.1,PV.int p.2)::fR l)=Option.map _ (List.lookup k (p::l))
  rw[I1,I1,uW (l:=l)]
  by_cases e:k=p.1
  ·rw[e,O2,O2];rfl
  ·rw[O0.mpr e,O0.mpr λ h=>e (by injection h with h;exact rA h)]
theorem sX(k:Nat)(v:Int):∀l:List (Nat×Int),∃l',putK (.int k) (.int v) (fR l)=fR l'∧l'.length<=l.length+1∧∀p∈l',p=(k,v)∨p∈l
 |[]=>⟨[(k,v)],rfl,D7 _,λ p hp=>.inl (D5.mp hp)⟩
 |q::l=>by
  refine A0 (sX k v l) λ l' hZ=>?_;delta hZ e h1 h2
  show ∃l',(if PK.int q.1=PK.int k then(PK.int k,PV.int v)::fR l else(PK.int q.1,PV.int q.2)::putK (.int k) (.int v) (fR l))=_∧_∧_
  split
  ·exact⟨(k,v)::l,rfl,cO _,λ p hp=>(F8.mp hp).imp id (.tail _)⟩
  ·exact⟨q::l',C7 _ e,O1 h1,λ p hp=>(F8.mp hp).elim (λ h=>.inr (h▸.head _)) λ h=>(h2 p h).imp id (.tail _)⟩
theorem GV{k:Nat}{v:Int}:∀{l:List (Nat×Int)},l.lookup k=some v->(k,v)∈l
 |p::l,h=>by
  rw[I1]at h
  split at h
  ·rename_i e;cases h;rw[eq_of_beq e];exact .head _
  ·exact .tail _ (GV h)
theorem Gy{σ:PH}{a:Addr}{l:List (Nat×Int)}{m:Nat}(h:σ a=some (.dict (fR l) m)){p:Nat×Int}(hp:p∈l):∃v,(p.1,v)∈l∧gE σ (.ref a) (C0 p.1)=some (.int v):=by
 refine A0 (NC (J2 (f:=λ p:Nat×Int=>(PK.int (p.1:Int),PV.int p.2)) hp)) λ v e=>?_
 have e':=e
 rw[uW]at e'
 refine A0 (O3.mp e') λ w hZ=>?_;generalize hZ.1=e1;clear e';obtain rfl:=hZ.2;try clear hZ
 exact⟨w,GV e1,(bE h rfl).trans e⟩
def Cell(R:Nat)(c:Int):Prop:=c=1048576∨(And (-(R:Int)<c) (c<32768))
structure RM where
 sA:Addr
 gA:Addr
 lA:Addr
 tA:Addr
 m1:Nat
 m2:Nat
 sh:List (Nat×Int)
 go:List (Nat×Int)
 lk:List (Addr×Nat×Nat)
structure Sw(G:Gr)(D:RM):Prop where
 sh:∀p∈D.sh,p.1<G.tc∧Cell G.rules.length p.2
 go:∀p∈D.go,0<=p.2∧p.2<32768
 lk:∀p∈D.lk,1<=p.2.1∧p.2.1<G.rules.length∧p.2.2<2^G.tc
 z1:D.sh.length<=10
 z2:D.go.length<=10
 z3:D.lk.length<=15
 as:(D.lk.map (·.2.1)).Pairwise (·<·)
abbrev Wh(l:List (Addr×Nat×Nat)):List (Addr×PO):=l.map λ p=>(p.1,.list [C0 p.2.1,C0 p.2.2])
abbrev Vr(x dx g:Addr)(i:Nat)(D:RM):List (Addr×PO):=[(x,.inst 731 dx),(dx,.attrs 731 [("grammar",.ref g),("number",C0 i),("shifts",.ref D.sA),("gotos",.ref D.gA),("looks",.ref D.lA),("barred",.int 0),("settled",.ref D.tA)]),(D.sA,.dict (fR D.sh) D.m1),(D.gA,.dict (fR D.go) D.m2),(D.lA,.list (D.lk.map λ p=>.ref p.1)),(D.tA,.list [])]
structure OQ(σ:PH)(x g:Addr)(i:Nat)(D:RM):Prop where
 ob:aT σ x 731 [("grammar",.ref g),("number",C0 i),("shifts",.ref D.sA),("gotos",.ref D.gA),("looks",.ref D.lA),("barred",.int 0),("settled",.ref D.tA)]
 sh:σ D.sA=some (.dict (fR D.sh) D.m1)
 go:σ D.gA=some (.dict (fR D.go) D.m2)
 ll:σ D.lA=some (.list (D.lk.map λ p=>.ref p.1))
 st:σ D.tA=some (.list [])
 lk:∀p∈D.lk,σ p.1=some (.list [C0 p.2.1,C0 p.2.2])
theorem OQ.ext{σ B9:PH}(E:Ext σ B9){x g:Addr}{i:Nat}{D:RM}(h:OQ σ x g i D):OQ B9 x g i D:=⟨h.ob.ext E,E _ _ h.sh,E _ _ h.go,E _ _ h.ll,E _ _ h.st,λ p hp=>E _ _ (h.lk p hp)⟩
theorem Pp{σ:PH}{x dx g:Addr}{i:Nat}{D:RM}(h:∀r∈Vr x dx g i D++Wh D.lk,σ r.1=some r.2):OQ σ x g i D:=by
 have m:=λ k {a o} (e:(Vr x dx g i D)[k]? =some (a,o))=>h (a,o) (H0 _ (B5 e))
 exact⟨⟨dx,m 0 rfl,m 1 rfl⟩,m 2 rfl,m 3 rfl,m 4 rfl,m 5 rfl,λ p hp=>h _ (G4 _ (J2 hp))⟩
section
variable{W:Wd}(P:dR W){n:Nat}{σ:PH}{g:Addr}{G:Gr}{Q:PV->PH->Prop}(hG:qA σ g G)
include P hG
theorem ZS{i t:Nat}(hi:i<G.rules.length)(q:Q .none σ):J9 W (n+1) (.ref 688) [.ref g,C0 i,C0 t] σ Q:=by
 refine ee2.e (hG.levels) λ l m hZ=>?_;delta hZ h1 h2
 refine ee3.e (hG.rule (C4 hi)) λ ru ra rb hZ=>?_;delta hZ r1 r2 r3 r4
 refine A0 (r4.level) λ lv r5=>?_
 exact P.fn IZ 48 rfl (ρ:=[.ref g,C0 i,C0 t,.M7,.M7]) rfl (K1 (J1 (D8 rfl h1) (gX h2 _) (p1 (D8 (I8 (D8 rfl r1) rfl (I0 r2 r3)) r5)) (KE P.ok h2 (K1 (J1 (D8 rfl h1) (gX h2 _) (p1 rfl) (KE P.ok h2 (dA (t:=true) rfl (λ _=>qS (P2 rfl q)) λ h=>nomatch h)))))))
end
theorem yL.Ps{G:Gr}{S:List St}(au:yL G S){s:St}(hs:s∈S){r:Nat}(h:r∈s.iX):1<=r∧r<G.rules.length:=by
 rw[au.rd s hs]at h
 refine A0 (D2.mp ((N8 _).mem_iff.mp h)) λ m hZ=>?_;generalize hZ.1=hm;clear h;obtain rfl:=hZ.2;try clear hZ
 have hZ:=J5.mp hm;delta hZ h1 h2
 exact⟨Nat.pos_of_ne_zero (D0 (F0.mp h2).2),(D3.mp (Gr.it (au.lt hs m h1)).rule).1⟩
theorem Cell.nat{G:Gr}(w:G.Wf){j:Nat}(h:j<32768):Cell G.rules.length j:=.inr ⟨by have:=w.pos;lia,T7.mpr h⟩
theorem ZC{W:Wd}(hW:W.Ok){n:Nat}{σ:PH}{Q:PV->PH->Prop}{a:Addr}{es:List (PK×PV)}{m:Nat}{l:List Int}{y v:PV}(e:σ a=some (.dict es m))(hs:U3 (.bN l) es=true)(hv:es.lookup (.bN l)=some v)(q:Q v σ):J9 W n (.builtin "dict.get") [.ref a,.tup (l.map .int),y] σ Q:=Ez hW e hs (by rw[hv];exact q)
section
variable{W:Wd}(P:dR W){n:Nat}{σ:PH}{g a t:Addr}{As:List SA}{S:List St}{G:Gr}{Q:PV->PH->Prop}(w:G.Wf)(hG:qA σ g G)(hA:KS σ a g t As S)(au:yL G S)
include P w hG hA au
theorem OC{i:Nat}(hi:i<S.length){ma:Addr}{ms:List (PK×PV)}{m':Nat}(hm:σ ma=some (.dict ms m'))(M:MI G S ms)(q:∀x dx B9 D,Led σ B9 (Vr x dx g i D) (Wh D.lk)->Sw G D->Q (.ref x) B9):J9 W (n+2) (.ref 731) [.ref g,.ref (As.getD i CQ).a,.ref ma] σ Q:=by
 refine vR P 9 49 1 (r:=nF) rfl rfl (O5:=[.ref g,.ref (As.getD i CQ).a,.ref ma,.M7,.M7]) (λ _=>rfl) (λ _=>rfl) λ x dx aL L=>?_
 refine Q9 rfl (P2 (D8 rfl (((hA.ext L.ext).at hi).ob.fld _)) (aE L rfl (C3 rfl) λ W9 L=>?_))
 refine Q9 rfl (dS L λ sA Y9 L=>aE L rfl (C3 rfl) λ bM L=>?_)
 refine Q9 rfl (dS L λ gA cI L=>aE L rfl (C3 rfl) λ eM L=>?_)
 have hs:S.getD i aB∈S:=B5 (W5 aB hi)
 have nd:=au.nd _ hs
 have Nq:=hA.at hi
 have kl:=au.Ko w hs
 rw[A8]at kl
 let F:(Nat->PV)->List PV:=λ v=>[.ref x,.ref g,.ref (As.getD i CQ).a,.ref ma,v 4,v 5]
 let LA:List (Nat×Int)->Nat->List (Nat×Int)->Nat->List (Addr×PO):=λ sh m1 go m2=>[(x,.inst 731 dx),(dx,.attrs 731 [("grammar",.ref g),("number",C0 i),("shifts",.ref sA),("gotos",.ref gA)]),(sA,.dict (fR sh) m1),(gA,.dict (fR go) m2)]
 let RS:List (Nat×Int)->Prop:=λ sh=>∀p∈sh,p.1<G.tc∧Cell G.rules.length p.2
 let RG:List (Nat×Int)->Prop:=λ go=>∀p∈go,0<=p.2∧p.2<32768
 refine eZ F (l:=(S.getD i aB).moves) (f:=λ p=>C0 p.1) (v:=.ref (As.getD i CQ).mv) (λ pre _ B9=>∃sh m1 go m2,RS sh∧RG go∧sh.length<=pre.length∧go.length<=pre.length∧Led σ B9 (LA sh m1 go m2) []) rfl (D8 rfl (((hA.ext L.ext).at hi).ob.fld _))
  (yX ((hA.ext L.ext).at hi).mv (G3.mpr λ p hp=>by refine A0 (D2.mp hp) λ q hZ=>?_;clear hp;obtain rfl:=hZ.2;try clear hZ;rfl) (by rw[rM,G2];rfl) (GW kl (by decide))) ⟨[],0,[],0,λ _ h=>(nomatch h),λ _ h=>(nomatch h),D7 _,D7 _,L⟩ ?_ ?_
 ·intro pre p post u eX R hl hQ;intros hQ sh m1 go m2 hZ;delta hZ h1 h2 h3 h4 L7;intro hR
  have hZ:=P5 hl;delta hZ Hx hp
  obtain⟨y,j⟩:=p
  have hZ:=au.mv _ hs _ hp;delta hZ hy hj
  have hj:=D1 hj au.len
  have look:∀{B9},Ext σ B9->gE B9 (.ref (As.getD i CQ).mv) (C0 y)=some (C0 j):=λ E=>(bE ((hA.ext E).at hi).mv rfl).trans (EO nd hp)
  have b1:∀{l:List (Nat×Int)},l.length<=pre.length->(fR l).length<2^24:=λ h=>by rw[A8];exact H8 h (D1 Hx (A9 kl (by decide)))
  have st:∀{B9:PH} {L R:List (Addr×PO)},Led σ B9 L R->M9 eM (.ref (As.getD i CQ).mv) B9:=λ h=>(h.ext _ _ Nq.mv).trans (L.ext _ _ Nq.mv).symm
  have e1:(pre++[(y,j)]).length=pre.length+1:=B0
  rw[e1]at hR
  have Ze:∀{v:Int} {m' B9},y<G.tc->Cell G.rules.length v->Led σ B9 [(x,.inst 731 dx),(dx,.attrs 731 [("grammar",.ref g),("number",C0 i),("shifts",.ref sA),("gotos",.ref gA)]),(sA,.dict (putK (.int y) (.int v) (fR sh)) m'),(gA,.dict (fR go) m2)] []->∃sh m1 go m2,RS sh∧RG go∧sh.length<=pre.length+1∧go.length<=pre.length+1∧Led σ B9 (LA sh m1 go m2) []:=λ{v m' B9} ht hc L=>by
   refine A0 (sX y v sh) λ s5 hZ=>?_;delta hZ e z hh
   rw[e]at L
   exact⟨s5,m',go,m2,λ p hp=>(hh p hp).elim (λ e=>e▸⟨ht,hc⟩) (h1 p),h2,A9 z (O1 h3),Z6 h4,L⟩
  refine dA (t:=decide ((y:Int)=0)) (N3 rfl rfl rfl) (λ c=>rG 2 L7 rfl (x:=.int 1048576) rfl (D8 rfl (L7.self rfl)) rfl rfl (fF ..) (b1 h3) λ m3 qC _ L8=>O7 (s_end (hR .next _ _ trivial (st L8) (Ze ?_ (.inl rfl) L8) rfl))) λ _=>dA (t:=decide ((y:Int)<(G.tc:Int))) (N3 rfl (D8 rfl (hG.ext L7.ext).tc) rfl) (λ c=>?_) λ _=>?_
  ·exact qH.mp (D0 c)▸D1 (by decide) w.t3
  ·exact rG 2 L7 rfl (x:=C0 j) (I8 (D8 rfl (((hA.ext L7.ext).at hi).ob.fld _)) rfl (look L7.ext)) (D8 rfl (L7.self rfl)) rfl rfl (fF ..) (b1 h3) λ m3 qC _ L8=>O7 (O7 (s_end (hR .next _ _ trivial (st L8) (Ze (T7.mp (D0 c)) (.nat w hj) L8) rfl)))
  ·refine rG 3 L7 rfl (x:=C0 j) (I8 (D8 rfl (((hA.ext L7.ext).at hi).ob.fld _)) rfl (look L7.ext)) (D8 rfl (L7.self rfl)) rfl rfl (fF ..) (b1 h4) λ m3 qC _ L8=>O7 (O7 (s_end (hR .next _ _ trivial (st L8) ?_ rfl)))
   refine A0 (sX y j go) λ bq hZ=>?_;delta hZ e z hh
   have L8:Led σ qC [_,_,_,(gA,.dict (putK (.int y) (.int j) (fR go)) m3)] []:=L8
   rw[e]at L8
   exact⟨sh,m1,bq,m3,h1,λ p hp=>(hh p hp).elim (λ e=>e▸⟨G6 j,T7.mpr hj⟩) (h2 p),Z6 h3,A9 z (O1 h4),L8⟩
 ·intro u eX hQ;intros hQ sh m1 go m2 hZ;delta hZ h1 h2 h3 h4 L
  refine Q9 rfl (K7 L rfl λ lA qC L=>aE L rfl (C3 rfl) λ IG L=>?_)
  let LB:List (Addr×Nat×Nat)->List (Addr×PO):=λ lk=>[(x,.inst 731 dx),(dx,.attrs 731 [("grammar",.ref g),("number",C0 i),("shifts",.ref sA),("gotos",.ref gA),("looks",.ref lA)]),(sA,.dict (fR sh) m1),(gA,.dict (fR go) m2),(lA,.list (lk.map λ p=>.ref p.1))]
  have rz:=IW au w hs
  refine eZ F (l:=(S.getD i aB).iX) (f:=C0) (v:=.ref (As.getD i CQ).rd) (λ pre _ B9=>∃lk,(∀p∈lk,1<=p.2.1∧p.2.1<G.rules.length∧p.2.2<2^G.tc)∧lk.map (·.2.1)=pre∧Led σ B9 (LB lk) (Wh lk)) rfl (D8 rfl (((hA.ext L.ext).at hi).ob.fld _)) (qT ((hA.ext L.ext).at hi).rd rz rfl) ⟨[],λ _ h=>(nomatch h),rfl,L⟩ ?_ ?_
  ·intro pre r post u iW R hl hQ;intros hQ lk hZ;delta hZ k1 k2 L1;intro hR
   have hZ:=P5 hl;delta hZ Hx hp
   have hZ:=au.Ps hs hp;delta hZ r1 r2
   refine A0 (M.ix i r hi hp) λ k hZ=>?_;delta hZ hk e
   have k3:lk.length=pre.length:=(A8 _).symm.trans (C7 List.length k2)
   have LF:=L1.ext _ _ hm
   refine N4 (T0 (D8 rfl (L1.self rfl)) (N9 (L1.get 4 rfl) _) (F9 (bQ (F9 (P2 rfl (F9 (J1 rfl (gX LF _) (I9 (oV (I9 (D8 rfl (((hA.ext L1.ext).at hi).ob.fld _)) (p1 rfl))) (p1 rfl)) (ZC P.ok (l:=[(i:Int),(r:Int)]) LF M.kt e (M0 λ b hb=>M0 ?_)))))))))
   have L2:=L1.wH hb (.list [C0 r,C0 k])
   generalize iW.set b _=oA at L2 ⊢
   refine aX 4 L2 rfl (GW (A9 (X0 k3) (M8 (D1 Hx rz))) (by decide)) λ rB _ L3=>s_end (hR .next _ _ trivial ((L3.ext _ _ Nq.rd).trans (L.ext _ _ Nq.rd).symm) ⟨lk++[(b,r,k)],T8 k1 ⟨r1,r2,hk⟩,by rw[C1,k2];rfl,?_⟩ rfl)
   show Led σ rB [_,_,_,_,(lA,.list (List.map _ (lk++[_])))] (List.map _ (lk++[_]))
   rw[C1,C1]
   exact L3
  ·intro u iW hQ;intros hQ lk hZ;delta hZ k1 k2 L
   have k3:lk.length=_:=(A8 _).symm.trans (C7 List.length k2)
   refine Q9 rfl (P2 rfl (aE L rfl (C3 rfl) λ oA L=>?_))
   exact Q9 rfl (K7 L rfl λ tA rB L=>aE L rfl (C3 rfl) λ FS L=>s_end ⟨rfl,q x dx FS ⟨sA,gA,lA,tA,m1,m2,sh,go,lk⟩ L ⟨h1,h2,k1,A9 h3 kl,A9 h4 kl,A9 (X0 k3) rz,k2▸au.Jw hs⟩⟩)
end
section
variable{W:Wd}{n:Nat}{σ C8:PH}{ρ:List PV}{r b:V0}{K:Fl->List PV->PH->Prop}{e c:PE}{i:Nat}{v:PV}
theorem Lq(F:(Nat->PV)->List PV){α:Type}{l:List α}{f:α->PV}{a:Addr}(I:List α->(Nat->PV)->PH->Prop)(HC:ρ=F (lo ρ))(h:pv σ ρ e=some (.ref a))(hv:σ a=some (.list (l.map f)))(hz:(l.map f).length<=2^24)(h0:I [] (lo ρ) σ)
  (hs:∀pre x post u B9 (R:Fl->List PV->PH->Prop),l.reverse=pre++x::post->I pre u B9->(∀fl O5 B9,fl.go->B9 a=σ a->I (pre++[x]) (lo O5) B9->O5=F (lo O5)->R fl O5 B9)->S8 W tb n b ((F u).set i (f x)) B9 R)
  (hk:∀u σ,I l.reverse u σ->S8 W tb n r (F u) σ K):S8 W tb n (.cons (.forR i e b) r) ρ σ K:=
 X5 e h ⟨a,_,rfl,hv,hz,List.map_reverse .. ▸eE (λ pre ρ σ=>ρ=F (lo ρ)∧I pre (lo ρ) σ) ⟨HC,h0⟩ (λ pre x post ρ B9 R e ⟨e',h⟩ k=>e'▸hs pre x post (lo ρ) B9 R e h λ fl O5 B9 g s h e=>k fl _ B9 g s ⟨e,h⟩) λ ρ σ ⟨e',h⟩=>e'▸hk (lo ρ) σ h⟩
theorem OY{α:Type}{l:List α}{f g:α->PV}{ys:α->List PV}{p:α->Bool}{elt:PE}{tg:Nat}{L R:List (Addr×PO)}{Q:PV->PH->Prop}(hL:Led C8 σ L R)(h:pv σ ρ e=some v)(hv:mF σ v (l.map f))(hb:∀x∈l,eI tg (f x)=some (ys x))
  (ht:∀x∈l,∀R:Bool->PH->Prop,R (p x) σ->(wp W tb n c).t (ρ++ys x) σ R)(hs:∀x∈l,p x=true->∀R:PV->PH->Prop,R (g x) σ->(wp W tb n elt).v (ρ++ys x) σ R)(k:∀c B9,Ext σ B9->Led C8 B9 (L++[(c,.list ((l.filter p).map g))]) R->Q (.ref c) B9):(wp W tb n (.comp elt tg e c)).v ρ σ Q:=by
 refine X5 e h ⟨_,hv,comp_map (λ pre acc B9=>B9=σ∧acc=(pre.filter p).map g) ⟨rfl,rfl⟩ (λ pre x post acc B9 R hl Vb hR=>?_) λ acc B9 Va c hc=>?_⟩
 ·delta Vb h1 h2
  clear h hv;clear k hL;subst h1 h2
  have hx:=(P5 hl).2
  refine⟨ys x,hb x hx,ht x hx _ ?_⟩
  cases e:p x
  ·exact hR none _ (rF _ _) ⟨rfl,by rw[G7,W1,e];exact C7 (List.map g) (C9 _).symm⟩
  ·exact hs x hx e _ (hR (some (g x)) _ (rF _ _) ⟨rfl,by rw[G7,W1,e,C1];rfl⟩)
 ·delta Va h1 h2
  clear h hb hs ht hv tg ys;subst h1 h2
  exact k c _ (Ext.new hc _) (hL.alloc hc _)
theorem Led.rb{C8 σ:PH}{L:List (Addr×PO)}(h:Led C8 σ L [])(hl:∀p∈L,∃xs,p.2=.list xs){D:Prop}(k:∀τ,Ext C8 τ->Led τ σ L []->(∀x C fs,aT σ x C fs->aT τ x C fs)->D):D:=by
 refine A0 (h.rebase) λ τ hZ=>?_;delta hZ E L' hk
 have no:∀a o,σ a=some o->(∀xs,o≠.list xs)->τ a=some o:=λ a o e n=>hk _ _ e λ m=>by
  refine A0 (D2.mp m) λ p hZ=>?_;generalize hZ.1=hp;clear m;obtain rfl:=hZ.2;try clear hZ
  refine A0 (hl p (C9 L▸hp)) λ xs hx=>?_
  exact n xs (G8 (e.symm.trans ((h.at_ p hp).trans (C7 some hx))))
 exact k τ E L' λ x C fs ⟨dx,h1,h2⟩=>⟨dx,no _ _ h1 (λ _ e=>by cases e),no _ _ h2 λ _ e=>by cases e⟩
end
section
variable{W:Wd}(P:dR W){n:Nat}{σ:PH}{x g:Addr}{i:Nat}{D:RM}{G:Gr}{Q:PV->PH->Prop}(w:G.Wf)(hG:qA σ g G)(hD:OQ σ x g i D)(hP:Sw G D)
include P w hG hD hP
theorem UF(q:∀B9,Ext σ B9->Q .none B9):J9 W (n+2) (.ref 709) [.ref x] σ Q:=by
 have zt:G.tc<=64:=A9 w.tc (A9 w.names (by decide))
 refine P.fn cZ 50 rfl (ρ:=[.ref x,.M7,.M7,.M7]) rfl (eZ (λ v=>[.ref x,v 1,v 2,v 3]) (l:=D.lk) (f:=λ p=>.ref p.1) (v:=.ref D.lA) (λ _ _ B9=>Ext σ B9) rfl (D8 rfl (hD.ob.fld _)) (qT hD.ll hP.z3 rfl) (.refl σ) ?_ λ u B9 E=>s_end (q B9 E))
 intro pre p post u aL R hl E1 hR
 have hp:=(P5 hl).2
 have hZ:=hP.lk p hp;delta hZ hZ h2 h3
 refine Z2 (H7 (p1 (I8 rfl rfl (I0 (k:=1) (E1 _ _ (hD.lk p hp)) rfl))) (CB (n:=n) P h3 zt λ c W9 E2 hc h=>?_))
 refine Z1 (λ v=>[.ref x,.ref p.1,v 2,v 3]) (l:=X7 p.2.2 G.tc) (f:=C0) (λ _ _ B9=>Ext W9 B9) rfl (qT h (A9 (H4 ..) (by rw[D9];exact zt)) rfl) (.refl W9) ?_ λ u B9 E=>s_end (hR .next _ _ trivial (((E1.trans E2).trans E _ _ hD.ll).trans hD.ll.symm) ((E1.trans E2).trans E) rfl)
 intro Pu t iI u2 Y9 R2 fN E3 bS
 have E:=(E1.trans E2).trans E3
 refine P3 rfl (oT (λ O5 B9=>O5=[.ref x,.ref p.1,C0 t,.none]∧B9=Y9) ?_ λ R hR=>uT (N3 rfl (D8 rfl ((hD.ob.ext E).fld _)) (uA (E _ _ hD.sh) rfl (fF ..))) ⟨λ _=>K1 (H7 (I9 (D8 rfl ((hD.ob.ext E).fld _)) (I9 (I8 rfl rfl (I0 (k:=0) (E _ _ (hD.lk p hp)) rfl)) (p1 rfl))) (ZS (n:=n) P (hG.ext E) h2 (s_end (hR _ _ ⟨rfl,rfl⟩)))),λ _=>s_end (hR _ _ ⟨rfl,rfl⟩)⟩)
 intro _ _ hQ;clear E;obtain rfl:=hQ.1;obtain rfl:=hQ.2;try clear hQ
 exact dA (t:=false) rfl (λ h=>nomatch h) λ _=>O7 (s_end (bS .next _ _ trivial ((E3 _ _ h).trans h.symm) E3 rfl))
theorem Sh(q:∀c B9 (r:List Int),Ext σ B9->σ c=none->r.length=G.tc->(∀z∈r,Cell G.rules.length z)->B9 c=some (.list (r.map .int))->Q (.ref c) B9):J9 W (n+2) (.ref 723) [.ref x] σ Q:=by
 have zt:G.tc<=10:=A9 w.tc w.names
 have Yu:G.tc<=64:=A9 zt (by decide)
 refine P.fn oK 51 rfl (ρ:=[.ref x,.M7,.M7,.M7]) rfl (K1 (O6 (K7 (Led.start σ) rfl λ ct aL L1=>P2 (D8 (D8 rfl ((hD.ob.ext L1.ext).fld _)) (hG.ext L1.ext).tc) (CF L1 (L1.get 0 rfl) (A9 zt (by decide)) λ c W9 L2=>?_))))
 let F:(Nat->PV)->List PV:=λ v=>[.ref x,.ref c,v 2,v 3]
 let I:List (Addr×PO)->PH->Prop:=λ X B9=>∃r:List Int,r.length=G.tc∧(∀z∈r,Cell G.rules.length z)∧Led σ B9 ([(ct,.list [.int 0]),(c,.list (r.map .int))]++X) []
 have ext:∀{X B9},I X B9->Ext σ B9:=λ⟨_,_,_,L⟩=>L.ext
 have h0:I [] W9:=⟨List.replicate G.tc 0,K8,λ z hz=>.inr (by rw[bJ hz];have:=w.pos;lia),by rw[nW];exact L2⟩
 have cell:∀{X:List (Addr×PO)} {B9:PH} {r:V0} {K:Fl->List PV->PH->Prop} {ρ:List PV} {t:Nat} {z:Int} {e:PE},I X B9->t<G.tc->Cell G.rules.length z->pv B9 ρ e=some (.int z)->(∀σ,pv σ ρ (.loc 1)=some (.ref c))->(∀σ,pv σ ρ (.loc 3)=some (C0 t))->(∀B9,I X B9->S8 W tb (n+1) r ρ B9 K)->S8 W tb (n+1) (.cons (.aN (.loc 1) (.loc 3) e) r) ρ B9 K:=λ{X B9 _ _ _ t z _} ⟨r,h1,h2,L⟩ ht hz he hc h3 k=>
  mX 1 L rfl (x:=.int z) he (hc _) (h3 _) (Cr h1 ht) λ S7 _ L=>k S7 ⟨r.set t z,(P0 ..).trans h1,λ y hy=>(aU hy).elim (h2 y) λ e=>e▸hz,VW (C:=λ y=>Led σ S7 ([_,(c,.list y)]++X) []) t z L⟩
 have Vw:∀l:List (Nat×Int),(fR l).all (λ p=>!jU p.1)=true:=λ l=>G3.mpr λ p hp=>by refine A0 (D2.mp hp) λ q hZ=>?_;clear hp;obtain rfl:=hZ.2;try clear hZ;rfl
 have bz:∀m,(X7 m G.tc).length<=64:=λ m=>A9 (H4 ..) (by rw[D9];exact Yu)
 refine Lq F (l:=D.lk) (f:=λ p=>.ref p.1) (λ _ _ B9=>I [] B9) rfl (D8 rfl ((hD.ob.ext L2.ext).fld _)) (L2.ext _ _ hD.ll) (GW hP.z3 (by decide)) h0 ?_ ?_
 ·intro pre p post u Y9 R hl h3 hR
  have hp:p∈D.lk:=List.mem_reverse.mp (P5 hl).2
  have hZ:=hP.lk p hp;delta hZ r1 r2 r3
  refine Z2 (H7 (p1 (I8 rfl rfl (I0 (k:=1) (ext h3 _ _ (hD.lk p hp)) rfl))) (CB (n:=n) P r3 Yu λ cb bM E4 hc h=>?_))
  let X:List (Addr×PO):=[(cb,.list ((X7 p.2.2 G.tc).map C0))]
  have h4:I X bM:=let⟨r,a,b,L⟩:=h3;⟨r,a,b,L.adopt E4 hc h⟩
  have at_:∀{B9},I X B9->B9 cb=some (.list ((X7 p.2.2 G.tc).map C0)):=λ⟨_,_,_,L⟩=>L.get 2 rfl
  refine Z1 (λ v=>[.ref x,.ref c,.ref p.1,v 3]) (l:=X7 p.2.2 G.tc) (f:=C0) (λ _ _ B9=>I X B9) rfl (qT h (bz _) rfl) h4 ?_ λ u B9 h=>s_end (hR .next _ _ trivial ((ext h _ _ hD.ll).trans (L2.ext _ _ hD.ll).symm) (let⟨r,a,b,L⟩:=h;⟨r,a,b,Led.drop (L:=[_,_]) L⟩) rfl)
  intro Pu t iI u2 cI R2 fN h5 bS
  exact cell h5 (wF (P5 fN).2).1 (.inr ⟨Int.neg_lt_neg (T7.mpr r2),by lia⟩) (xD (I8 rfl rfl (I0 (k:=0) (ext h5 _ _ (hD.lk p hp)) rfl))) (λ _=>rfl) (λ _=>rfl) λ eM h6=>s_end (bS .next _ _ trivial ((at_ h6).trans h.symm) h6 rfl)
 ·intro u Y9 h3
  refine eZ F (l:=D.sh) (f:=λ p=>C0 p.1) (v:=.ref D.sA) (λ _ _ B9=>I [] B9) rfl (D8 rfl ((hD.ob.ext (ext h3)).fld _)) (yX (ext h3 _ _ hD.sh) (Vw _) (by rw[G2];rfl) (GW hP.z1 (by decide))) h3 ?_ ?_
  ·intro pre p post u2 bM R hl h4 hR
   have hp:=(P5 hl).2
   refine A0 (Gy (ext h4 _ _ hD.sh) hp) λ v hZ=>?_;delta hZ hv e
   exact cell h4 (hP.sh p hp).1 (hP.sh _ hv).2 (I8 (D8 rfl ((hD.ob.ext (ext h4)).fld _)) rfl e) (λ _=>rfl) (λ _=>rfl) λ cI h5=>s_end (hR .next _ _ trivial ((ext h5 _ _ hD.sh).trans (ext h3 _ _ hD.sh).symm) h5 rfl)
  ·intro u2 bM h4
   refine Z2 (H7 (p1 (D8 rfl ((hD.ob.ext (ext h4)).fld _))) (CB (n:=n) (m:=0) (N:=0) P (by decide) (by decide) λ cb cI E5 hc h=>Z1 F (l:=X7 0 0) (f:=C0) (λ _ _ B9=>I [] B9) rfl (qT h (D7 0) rfl) (let⟨r,a,b,L⟩:=h4;⟨r,a,b,L.grow E5⟩) (λ pre t post _ _ _ hl=>absurd (wF (P5 hl).2).1 (Z9 _)) λ u B9 ⟨r,h1,h2,L⟩=>X8 rfl (q c B9 r L.ext (L.new (c,_) (.tail _ (.head _))) h1 h2 (L.get 1 rfl))))
end
structure Cf where
 s:Nat
 t:Nat
 rs:List Nat
 ch:Int
def OT(σ:PH)(a:Addr)(c:Cf):Prop:=∃w,aT σ a 637 [("state",C0 c.s),("terminal",C0 c.t),("way",w),("rules",.tup (c.rs.map C0)),("chosen",.int c.ch)]
theorem OT.ext{σ B9:PH}(E:Ext σ B9){a:Addr}{c:Cf}(h:OT σ a c):OT B9 a c:=let⟨w,o⟩:=h;⟨w,o.ext E⟩
def LJ(C8 σ:PH)(c:Addr)(l:List Cf):Prop:=∃(τ:PH) (cl:List (Addr×Cf)),Ext C8 τ∧Led τ σ [(c,.list (cl.map λ p=>.ref p.1))] []∧(∀p∈cl,OT τ p.1 p.2)∧cl.map (·.2)=l
theorem LJ.pre{B4 C8 σ:PH}{c:Addr}{l:List Cf}(E:Ext B4 C8)(h:LJ C8 σ c l):LJ B4 σ c l:=let⟨τ,cl,h1,h2,h3,h4⟩:=h;⟨τ,cl,E.trans h1,h2,h3,h4⟩
theorem LJ.ext{C8 σ:PH}{c:Addr}{l:List Cf}(h:LJ C8 σ c l):Ext C8 σ:=let⟨_,_,h1,h2,_,_⟩:=h;h1.trans h2.ext
theorem LJ.at{C8 σ:PH}{c:Addr}{l:List Cf}(h:LJ C8 σ c l):∃xs,σ c=some (.list xs):=let⟨_,_,_,h2,_,_⟩:=h;⟨_,h2.get 0 rfl⟩
structure Sv(G:Gr)(rs:List Nat):Prop where
 z:rs.length<=15
 lt:∀r∈rs,1<=r∧r<G.rules.length
 as:rs.Pairwise (·<·)
def yI(i t:Nat)(rs:List Nat)(sr:Bool)(ch:Int):List Cf:=(if(!rs.isEmpty&&sr)=true then[⟨i,t,rs,ch⟩]else[])++(rs.drop 1).map λ y=>⟨i,t,[rs.getD 0 0,y],ch⟩
def CG(G:Gr)(i:Nat):Nat->List Cf->Prop
 |0,l=>l=[]
 |b+1,l=>∃l' rs sr ch,CG G i b l'∧Sv G rs∧l=l'++yI i b rs sr ch
def CS(G:Gr):Nat->List Cf->Prop
 |0,l=>l=[]
 |k+1,l=>∃l' m,CS G k l'∧CG G k G.tc m∧l=l'++m
theorem ZM{G:Gr}{rs:List Nat}(h:Sv G rs)(i t:Nat)(sr:Bool)(ch:Int):(yI i t rs sr ch).length<=16:=by
 unfold yI
 rw[B0,A8,U7]
 have:=h.z
 split
 ·show 1+_<=_;lia
 ·show 0+_<=_;lia
theorem CG.len{G:Gr}{i:Nat}:∀{b:Nat} {l:List Cf},CG G i b l->l.length<=16*b
 |0,_,h=>X0 (C7 List.length h)
 |b+1,_,⟨l',rs,sr,ch,h,hr,e⟩=>by
  rw[e,B0]
  exact S0 h.len (ZM hr ..)
theorem Sw.bw{G:Gr}{D:RM}(h:Sw G D)(p:Addr×Nat×Nat->Bool):∃rs:List Nat,(D.lk.filter p).map (λ p=>C0 p.2.1)=rs.map C0∧Sv G rs:=
 ⟨(D.lk.filter p).map (·.2.1),by rw[G2];rfl,by rw[A8];exact A9 (H4 ..) h.z3,λ r hr=>by
  refine A0 (D2.mp hr) λ q hZ=>?_;generalize hZ.1=hq;clear hr;obtain rfl:=hZ.2;try clear hZ
  exact⟨(h.lk q (J5.mp hq).1).1,(h.lk q (J5.mp hq).1).2⟩,h.as.sublist (List.filter_sublist.map _)⟩
theorem LJ.new{C8 σ B9:PH}{c a:Addr}{l:List Cf}(h:LJ C8 σ c l)(E:Ext σ B9)(ha:σ a=none){o:PO}(h':B9 a=some o){D:Prop}(k:∀τ,Ext C8 τ->τ a=some o->LJ τ B9 c l->D):D:=by
 intros h τ hZ;intros hZ cl Q0;delta Q0 h1 h2 h3 h4
 exact(h2.adopt E ha h').keep λ CP E L gB=>k CP (h1.trans E) (gB _ (.head _)) ⟨CP,cl,.refl _,L,λ p hp=>(h3 p hp).ext E,h4⟩
section
variable{W:Wd}{n:Nat}{σ:PH}{ρ:List PV}{e:PE}{Q:PV->PH->Prop}{B:Bool->PH->Prop}
theorem Pg{op:Operator}{a b:PE}(h:(wp W tb n (.bin op a b)).v ρ σ λ x B9=>∃b,zJ B9 x=some b∧B b B9):(wp W tb n (.bin op a b)).t ρ σ B:=h
theorem Ag{a b:Nat}(q:Q (C0 (a&&&b)) σ):mO .BitAnd σ Q (C0 a) (C0 b):=by show Q (.int (Builtin.bitAnd a b)) σ;rw[rW];exact q
theorem Jz{i:Nat}{a:Addr}{xs:List PV}(h:pv σ ρ (.loc i)=some (.ref a))(ha:σ a=some (.list xs)):pt σ ρ (.loc i)=some (!xs.isEmpty):=by
 show Option.bind (pv σ ρ (.loc i)) (zJ σ)=_
 rw[h]
 show iK _ _ (σ a)=_
 rw[ha];rfl
theorem Jb{a:Addr}{xs:List PV}(h:pv σ ρ e=some (.ref a))(ha:σ a=some (.list xs))(hz:xs.length<=2^24)(k:∀c,σ c=none->Q (.ref c) (σ.set c (.list (xs.drop 1)))):(wp W tb n (.wQ e (.int 1) .absent)).v ρ σ Q:=
 X5 e h ⟨xs,some 1,none,.inl ha,rfl,rfl,rfl,rfl,hz,by rw[show fE xs (some 1) none=xs.drop 1 from C7 (List.drop 1) (iA (D7 _))];exact k⟩
end
section
variable{W:Wd}(P:dR W){n:Nat}{σ C8:PH}{x g:Addr}{i:Nat}{D:RM}{G:Gr}{Q:PV->PH->Prop}
include P
theorem RU{m:Nat}{c:Addr}{l:List Cf}(I:LJ C8 σ c l)(hb:l.length<=1000)(cf:Cf){w:Str}(q:∀B9,LJ C8 B9 c (l++[cf])->Q .none B9):J9 W (n+2) (.ref 637) [C0 cf.s,C0 cf.t,.str w,.tup (cf.rs.map C0),.int cf.ch] σ λ v B9=>J9 W m (.builtin "list.append") [.ref c,v] B9 Q:=by
 intros I τ hZ;intros hZ cl Q0;delta Q0 h1 h2 h3 h4
 refine tW P nH 44 7 rfl rfl (O5:=[C0 cf.s,C0 cf.t,.str w,.tup (cf.rs.map C0),.int cf.ch]) (λ _=>rfl) (λ _=>rfl) λ y aL E _ O=>?_
 refine(h2.grow E).rb (λ p hp=>⟨_,C7 Prod.snd (D5.mp hp)⟩) λ CP E' L hO=>aX 0 L rfl (GW (show cl.length<=1000 by rw[<-h4,A8]at hb;exact hb) (by decide)) λ W9 _ L=>q W9 ⟨CP,cl++[(y,cf)],h1.trans E',?_,T8 (λ p hp=>(h3 p hp).ext E') ⟨_,hO _ _ _ O⟩,by rw[C1,h4];rfl⟩
 rw[C1];exact L
end
section
variable{W:Wd}(P:dR W){n:Nat}{σ:PH}{x g:Addr}{i:Nat}{D:RM}{G:Gr}{Q:PV->PH->Prop}(w:G.Wf)(hG:qA σ g G)(hD:OQ σ x g i D)(hP:Sw G D)
include P w hG hD hP
theorem Mq{ra:Addr}{r:List Int}(hr:σ ra=some (.list (r.map .int)))(zr:r.length=G.tc)(q:∀c B9 l,LJ σ B9 c l->CG G i G.tc l->Q (.ref c) B9):J9 W (n+3) (.ref 728) [.ref x,.ref ra] σ Q:=by
 have zt:G.tc<=10:=A9 w.tc w.names
 refine P.fn fS 52 rfl (ρ:=[.ref x,.ref ra,.M7,.M7,.M7,.M7,.M7]) rfl (K1 (K7 (Led.start σ) rfl λ c aL L1=>?_))
 let F:(Nat->PV)->List PV:=λ v=>[.ref x,.ref ra,.ref c,v 3,v 4,v 5,v 6]
 refine Z2 (H7 (p1 (D8 (D8 rfl ((hD.ob.ext L1.ext).fld _)) (hG.ext L1.ext).tc)) (aQ (Z1 F (λ pre _ B9=>∃l,LJ σ B9 c l∧CG G i pre.length l) rfl (fJ (A9 zt (by decide))) ⟨[],⟨σ,[],.refl σ,L1,λ _ h=>(nomatch h),rfl⟩,rfl⟩ ?_ λ u B9 ⟨l,I,C⟩=>X8 rfl (q c B9 l I (by rw[D9]at C;exact C)))))
 intro pre t post u W9 R hl hQ;intros hQ l hZ;delta hZ I C;intro hR
 have hZ:=P9 hl;delta hZ hp ht
 have e1:(pre++[t]).length=pre.length+1:=B0
 have bz:pre.length<10:=by rw[hp,D9];exact D1 ht zt
 rw[e1]at hR
 have lz:=C.len
 have hp:pre.length=t:=by rw[hp,D9]
 rw[hp]at C hR bz lz
 clear hp e1 hl
 have E:=I.ext
 refine K1 (OY (l:=D.lk) (f:=λ p=>.ref p.1) (g:=λ p=>C0 p.2.1) (p:=λ p=>decide (((p.2.2&&&2^t:Nat):Int)≠0)) (Led.start W9) (D8 rfl ((hD.ob.ext E).fld _)) (qT (E _ _ hD.ll) hP.z3 rfl) (λ _ _=>rfl)
  (λ p hp R hR=>Pg (O6 (P2 (I8 rfl rfl (I0 (k:=1) (E _ _ (hD.lk p hp)) rfl)) (rE rfl rfl (sY t (Gr.IK ht zt) (Ag ⟨_,rfl,hR⟩)))))) (λ p hp _ R hR=>P2 (I8 rfl rfl (I0 (k:=0) (E _ _ (hD.lk p hp)) rfl)) hR) λ ca Y9 E3 L3=>?_)
 refine I.new E3 (L3.new _ (.head _)) (L3.get 0 rfl) λ τ E4 Rd I=>?_
 refine A0 (hP.bw λ p=>decide (((p.2.2&&&2^t:Nat):Int)≠0)) λ rs hZ=>?_;delta hZ e hb
 rw[e]at Rd
 clear e L3 E3 E
 have ob:∀{B9},Ext τ B9->aT B9 x 731 _:=λ E=>hD.ob.ext (E4.trans E)
 have cell:∀{B9},Ext τ B9->gE B9 (.ref ra) (C0 t)=some (.int (r.getD t 0)):=λ E=>W8 0 ((E4.trans E) _ _ hr) (zr.symm▸ht)
 have hz:=hb.z
 refine oT (λ O5 B9=>∃sr:Bool,O5=[.ref x,.ref ra,.ref c,C0 t,.ref ca,u 5,u 6]∧LJ τ B9 c (l++if(!rs.isEmpty&&sr)=true then[(⟨i,t,rs,r.getD t 0⟩:Cf)]else[])) ?_ λ R1 yF=>uT (jQ (Jz rfl (I.ext _ _ Rd)) (N3 rfl (D8 rfl ((ob I.ext).fld _)) (uA ((E4.trans I.ext) _ _ hD.sh) rfl (fF ..)))) ⟨λ h=>?_,λ h=>s_end (yF _ _ ⟨_,rfl,by rw[List.isEmpty_map]at h;rw[h];exact(C9 l).symm▸I⟩)⟩
 ·intro _ bM hQ;intros hQ sr hZ;obtain rfl:=hZ.1;delta hZ hZ I
  have z1:(l++if(!rs.isEmpty&&sr)=true then[(⟨i,t,rs,r.getD t 0⟩:Cf)]else[]).length<=161:=by
   rw[B0]
   split
   ·exact O1 (A9 lz (by lia))
   ·exact A9 lz (by lia)
  have C':∀l',l'=(l++if(!rs.isEmpty&&sr)=true then[(⟨i,t,rs,r.getD t 0⟩:Cf)]else[])++(rs.drop 1).map (λ y=>(⟨i,t,[rs.getD 0 0,y],r.getD t 0⟩:Cf))->CG G i (t+1) l':=λ l' e=>⟨l,rs,sr,r.getD t 0,C,hb,by rw[e,C6];rfl⟩
  generalize (l++if(!rs.isEmpty&&sr)=true then[(⟨i,t,rs,r.getD t 0⟩:Cf)]else[])=l1 at I z1 C'
  refine Z2 (Jb rfl (I.ext _ _ Rd) (GW hz (by decide)) λ cs Bi=>?_)
  refine I.new (o:=.list ((rs.map C0).drop 1)) (Ext.new Bi _) Bi (PH.J7 ..) λ On E5 Bj I=>?_
  generalize bM.set cs _=cI at I ⊢
  rw[<-List.map_drop]at Bj
  have dz:(rs.drop 1).length<=15:=by rw[U7];exact A9 (Nat.sub_le ..) hz
  refine Z1 (λ v=>[.ref x,.ref ra,.ref c,C0 t,.ref ca,v 5,v 6]) (l:=rs.drop 1) (f:=C0) (λ p2 _ B9=>LJ On B9 c (l1++p2.map (λ y=>(⟨i,t,[rs.getD 0 0,y],r.getD t 0⟩:Cf)))) rfl (qT (I.ext _ _ Bj) dz rfl) ((C9 l1).symm▸I) ?_ λ u B9 I=>s_end (hR .next _ _ trivial trivial ⟨_,I.pre (E4.trans E5),C' _ rfl⟩ rfl)
  have I5:=I.ext
  clear I C' C
  intro p2 y iI u2 eM R2 fN I bS
  have hZ:=P5 fN;delta hZ Nr hy
  rw[C1,<-C6]at bS
  have hy:=kJ hy
  have h0:=W5 (l:=rs) (i:=0) 0 (List.length_pos_of_mem hy)
  have E:=I.ext
  refine P3 (oV (I9 (I8 rfl rfl (I0 (k:=0) (E _ _ (E5 _ _ Rd)) (V5 h0))) (p1 rfl))) (N4 (T0 rfl (N9 I.at.choose_spec _) (F9 (T5 (F9 (P2 (D8 rfl ((ob (E5.trans E)).fld _)) (F9 (P2 rfl (F9 (P2 rfl (F9 (P2 rfl (F9 (P2 (I8 rfl rfl (cell (E5.trans E))) (M0 ?_)))))))))))))))
  exact RU (n:=n) P I (by rw[B0,A8];lia) ⟨i,t,[rs.getD 0 0,y],r.getD t 0⟩ λ B9 I=>s_end (bS .next _ _ trivial ((I.ext _ _ Bj).trans (I5 _ _ Bj).symm) I rfl)
 ·exact N4 (T0 rfl (N9 I.at.choose_spec _) (F9 (T5 (F9 (P2 (D8 rfl ((ob I.ext).fld _)) (F9 (P2 rfl (F9 (P2 rfl (F9 (H7 (p1 rfl) (mP (I.ext _ _ Rd) (GW hz (by decide)) (F9 (P2 (I8 rfl rfl (cell I.ext)) (M0 (RU (n:=n) P I (by lia) ⟨i,t,rs,r.getD t 0⟩ λ B9 I=>s_end (yF _ _ ⟨_,rfl,by rw[List.isEmpty_map]at h;rw[h];exact I⟩)))))))))))))))))
end
section
variable{W:Wd}{n:Nat}{σ:PH}{ρ:List PV}{a b c e:PE}{B:Bool->PH->Prop}{Q:PV->PH->Prop}
theorem Jh{op CR:CmpOp}{x y z:PV}{r r':Bool}(ha:pv σ ρ a=some x)(hb:pv σ ρ b=some y)(hc:pv σ ρ c=some z)(h1:iR σ op x y=some r)(h2:iR σ CR y z=some r')(k:B (r&&r') σ):(wp W tb n (.KF op CR a b c)).t ρ σ B:=
 X5 (K:=λ x B4=>(wp W tb n b).v ρ B4 λ y H6=>∃r,iR H6 op x y=some r∧match r with
  |false=>∃b,zJ H6 (.bool false)=some b∧B b H6
  |true=>(wp W tb n c).v ρ H6 λ z R9=>∃r,iR R9 CR y z=some r∧∃b,zJ R9 (.bool r)=some b∧B b R9) a ha (X5 b hb ⟨r,h1,by
   clear h1;cases r
   ·exact⟨_,rfl,k⟩
   ·exact X5 c hc ⟨r',h2,_,rfl,k⟩⟩)
theorem GN{z:Int}(h:pv σ ρ e=some (.int (-z))):pv σ ρ (.neg e)=some (.int z):=(xD h).trans (by rw[Int.neg_neg])
theorem Pt{t:Bool}(h:pt σ ρ a=some t)(h':t=false->∃t',pt σ ρ b=some t'):∃t',pt σ ρ (.or a b)=some t':=by
 cases t
 ·exact let⟨t',e⟩:=h' rfl;⟨t',MO h e⟩
 ·exact⟨true,MO h rfl⟩
theorem RN(hW:W.Ok){a:Addr}{l:List (Nat×Int)}{m k:Nat}{d:Int}(h:σ a=some (.dict (fR l) m))(q:Q (.int ((l.lookup k).getD d)) σ):J9 W n (.builtin "dict.get") [.ref a,C0 k,.int d] σ Q:=
 RO hW h (fF ..) (by rw[uW];cases e:l.lookup k<;>rw[e]at q<;>exact q)
end
section
variable{W:Wd}(P:dR W){n:Nat}{σ:PH}{G:Gr}{Q:PV->PH->Prop}(w:G.Wf){ra:Addr}{r:List Int}(hr:σ ra=some (.list (r.map .int)))(zr:r.length=G.tc)(cr:∀z∈r,Cell G.rules.length z)
include P w hr zr cr
theorem UJ(q:∀B9 (b:Nat),Ext σ B9->b<G.rules.length->Q (C0 b) B9):J9 W (n+1) (.ref 742) [.ref ra] σ Q:=by
 have zt:r.length<=10:=zr▸A9 w.tc w.names
 refine P.fn tL 53 rfl (ρ:=[.ref ra,.M7,.M7,.M7,.M7]) rfl (dA (N3 (I8 rfl rfl (W8 0 hr (i:=1) (zr.symm▸D1 (by decide) w.t3))) rfl rfl) (λ _=>qS (P2 rfl (q σ 0 (.refl σ) w.pos))) λ _=>O7 (K1 (dS (Led.start σ) λ c aL L1=>?_)))
 refine eZ (λ v=>[.ref ra,.ref c,v 2,v 3,v 4]) (l:=r) (f:=.int) (v:=.ref ra) (λ pre _ B9=>∃kvs m,Led σ B9 [(c,.dict (fR kvs) m)] []∧(∀p∈kvs,p.1<G.rules.length)∧kvs.length<=pre.length) rfl rfl (qT (L1.ext _ _ hr) zt rfl) ⟨[],0,L1,λ _ h=>(nomatch h),D7 _⟩ ?_ ?_
 ·intro pre z post u W9 R hl hQ;intros hQ kvs m hZ;delta hZ L k1 k2;intro hR
  have hZ:=P5 hl;delta hZ hp hz
  have st:∀{B9:PH} {L R:List (Addr×PO)},Led σ B9 L R->M9 aL (.ref ra) B9:=λ h=>(h.ext _ _ hr).trans (L1.ext _ _ hr).symm
  rw[B0]at hR
  refine iH (Jh rfl rfl rfl rfl rfl ⟨λ ht=>?_,λ _=>O7 (s_end (hR .next _ _ trivial (st L) ⟨kvs,m,L,k1,Z6 k2⟩ rfl))⟩)
  have neg:z<0:=D0 (F0.mp ht).2
  refine A0 (Int.exists_eq_neg_ofNat (Int.le_of_lt neg)) λ k hZ=>?_;clear hl ht;obtain rfl:=hZ
  have hk:k<G.rules.length:=by rcases cr _ hz with h|h<;>lia
  refine zT (O6 (J1 rfl (gX (L.get 0 rfl) _) (I9 (GN rfl) (p1 rfl)) (RN P.ok (L.get 0 rfl) (P2 rfl (P2 rfl (P2 (GN rfl) (OW 0 L rfl rfl (fF ..) ?_ λ m' Y9 _ L3=>?_)))))))
  ·rw[A8];exact H8 (A9 k2 (M8 hp)) (H8 zt (by decide))
  ·refine A0 (sX k ((kvs.lookup k).getD 0+1) kvs) λ Wk hZ=>?_;delta hZ e h1 h2
   have L3:Led σ Y9 [(c,.dict (putK (.int k) (.int ((kvs.lookup k).getD 0+1)) (fR kvs)) m')] []:=L3
   rw[e]at L3
   exact O7 (s_end (hR .next _ _ trivial (st L3) ⟨Wk,m',L3,λ p hp=>(h2 p hp).elim (λ e=>e▸hk) (k1 p),A9 h1 (O1 k2)⟩ rfl))
 ·intro u W9 hQ;intros hQ kvs m hZ;delta hZ L k1 k2
  refine P3 rfl (Z2 (H7 (p1 rfl) (fO P.ok (L.get 0 rfl) (ns:=kvs.map (·.1)) (by rw[G2,G2];rfl) (by rw[A8];exact H8 (A9 k2 zt) (by decide)) λ cs Bi=>?_)))
  have L2:=L.alloc Bi (.list ((dU (kvs.map (·.1))).map C0))
  generalize W9.set cs _=Y9 at L2 ⊢
  have sb:∀{y},y∈kvs.map (·.1)->∃v,gE Y9 (.ref c) (C0 y)=some (.int v):=λ h=>by
   refine A0 (D2.mp h) λ p hZ=>?_;generalize hZ.1=hp;obtain rfl:=hZ.2;try clear hZ
   refine A0 (Gy (L2.get 0 rfl) hp) λ v hZ=>?_;delta hZ hZ e
   exact⟨v,e⟩
  refine Z1 (λ v=>[.ref ra,.ref c,v 2,v 3,v 4]) (l:=dU (kvs.map (·.1))) (f:=C0) (λ _ v B9=>B9=Y9∧∃b,v 3=C0 b∧(b=0∨b∈kvs.map (·.1))) rfl (qT (L2.get 1 rfl) (by rw[(N8 _).length_eq,A8];exact A9 k2 zt) rfl) ⟨rfl,0,rfl,.inl rfl⟩ ?_ λ u B9 ⟨e,b,e3,hb⟩=>X8 (rI e3 rfl) (q B9 b (e▸L2.ext) (hb.elim (λ h=>h▸w.pos) λ h=>by refine A0 (D2.mp h) λ p hZ=>?_;generalize hZ.1=hp;obtain rfl:=hZ.2;try clear hZ;exact k1 p hp))
  intro pre y post u bM R hl hQ;generalize hQ.1=e4;refine A0 hQ.2 λ b Q0=>?_;delta Q0 e3 hb;try clear hQ;intro hR
  clear L L1 L2 P cr Bi hr k1 k2 m q w zr zt aL W9;subst e4
  have hy:=(N8 _).mem_iff.mp (P5 hl).2
  refine A0 (sb hy) λ v1 s1=>?_
  obtain⟨t,ht⟩:∃t,pt bM [.ref ra,.ref c,u 2,u 3,C0 y] (.or (.cmp .Eq (.loc 3) (.int 0)) (.cmp .Gt (.sub (.loc 1) (.loc 4)) (.sub (.loc 1) (.loc 3))))=some t:=Pt (N3 (b:=decide ((b:Int)=0)) (rI e3 rfl) rfl rfl) (λ h=>by
   refine A0 (sb (hb.resolve_left λ e=>K6 h (C7 Int.ofNat e))) λ v2 s2=>?_
   exact⟨_,N3 (I8 rfl rfl s1) (I8 rfl (rI e3 rfl) s2) rfl⟩)
  exact dA ht (λ _=>P3 rfl (O7 (s_end (hR .next _ _ trivial rfl ⟨rfl,y,rfl,.inr hy⟩ rfl)))) λ _=>O7 (s_end (hR .next _ _ trivial rfl ⟨rfl,b,e3,hb⟩ rfl))
theorem UD{b:Nat}(q:∀c B9 (r':List Int),Ext σ B9->σ c=none->r'.length=G.tc->(∀z∈r',Cell G.rules.length z)->B9 c=some (.list (r'.map .int))->Q (.ref c) B9):J9 W (n+1) (.ref 747) [.ref ra,C0 b] σ Q:=by
 have zt:r.length<=10:=zr▸A9 w.tc w.names
 refine P.fn ED 54 rfl (ρ:=[.ref ra,C0 b]) rfl (W3 (gT (l:=r) (f:=.int) (g:=λ z=>.int (if z= -(b:Int)then 0 else z)) (Led.start σ) rfl (qT hr zt rfl) (λ _ _=>rfl) (λ z _ R hR=>VK (t:=decide (z= -(b:Int))) (N3 rfl (xD rfl) rfl) ?_) λ c B9 E L=>q c B9 (r.map λ z=>if z= -(b:Int)then 0 else z) E (L.new _ (.head _)) ((A8 ..).trans zr) (λ y hy=>?_) (by rw[G2];exact L.get 0 rfl)))
 ·by_cases e:z= -(b:Int)
  ·rw[F7 e]at hR;rw[H3 e];exact P2 rfl hR
  ·rw[G0 e]at hR;rw[J8 e];exact P2 rfl hR
 ·refine A0 (D2.mp hy) λ z hZ=>?_;generalize hZ.1=hz;clear hy;obtain rfl:=hZ.2;try clear hZ
  show Cell _ (if _ then _ else _)
  split
  ·exact .inr (by have:=w.pos;lia)
  ·exact cr z hz
end
structure Au where
 g:Addr
 nm:Addr
 lf:Addr
 le:Addr
 be:Addr
 nb:Addr
 rl:Addr
 gl:Addr
 dl:Addr
 cl:Addr
 sl:Addr
abbrev Vl(A:Au)(tc:Nat):List (String×PV):=[("names",.ref A.nm),("terminal_count",C0 tc),("lefts",.ref A.lf),("lengths",.ref A.le),("befores",.ref A.be),("defaults",.ref A.dl),("numbers",.ref A.nb),("grammar",.ref A.g),("rows",.ref A.rl),("gotos",.ref A.gl),("conflicts",.ref A.cl),("settled",.ref A.sl),("mode",.str (Str.ofString "lalr"))]
abbrev oF:Rl:=⟨0,[]⟩
abbrev Km(G:Gr):List PV:=(List.range G.rules.length).map λ i=>C0 (G.rules.getD i oF).left
section
variable{W:Wd}(P:dR W){n:Nat}{σ C8:PH}{g:Addr}{G:Gr}{Q:PV->PH->Prop}(w:G.Wf)
include P w
theorem UK{x dx nm lf le be:Addr}(hn:C8 nm=some (.list (G.names.map .str)))(L:Led C8 σ [(x,.inst 679 dx),(dx,.attrs 679 [])] [])
  (q:∀B9 d nb es m,Led C8 B9 [(x,.inst 679 dx),(dx,.attrs 679 [("names",.ref nm),("terminal_count",C0 G.tc),("lefts",.ref lf),("lengths",.ref le),("befores",.ref be),("defaults",.ref d),("numbers",.ref nb)]),(d,.list []),(nb,.dict es m)] []->Q .none B9):UU W (n+1) (.ref 522) [.ref x,.ref nm,C0 G.tc,.ref lf,.ref le,.ref be] σ Q:=by
 refine P.Uk qQ 41 rfl (ρ:=[.ref x,.ref nm,C0 G.tc,.ref lf,.ref le,.ref be,.M7]) rfl ?_
 have zt:=A9 w.tc w.names
 have cx:x≠dx:=λ e=>(N7.mp L.nd).1 (e▸.head _)
 refine tC (C:=679) (dx:=dx) rfl cx 5 _ rfl (L.get 0 rfl) (L.get 1 rfl) ?_
 have L:=L.set 1 rfl (.attrs 679 [("names",.ref nm),("terminal_count",C0 G.tc),("lefts",.ref lf),("lengths",.ref le),("befores",.ref be)])
 show S8 W tb n _ _ (σ.set dx (.attrs 679 [("names",.ref nm),("terminal_count",C0 G.tc),("lefts",.ref lf),("lengths",.ref le),("befores",.ref be)])) _
 generalize σ.set dx _=cI at L ⊢
 refine Q9 rfl (K7 L rfl λ d eM L=>aE L rfl (C3 rfl) λ eX L=>?_)
 refine Q9 rfl (dS L λ nb qC L=>aE L rfl (C3 rfl) λ IG L=>?_)
 refine Z2 (H7 (p1 rfl) (aQ (Z1 (λ v=>[.ref x,.ref nm,C0 G.tc,.ref lf,.ref le,.ref be,v 6]) (λ pre _ B9=>∃es m,es.all (λ p=>jU p.1)=true∧es.length<=pre.length∧Led C8 B9 [(x,.inst 679 dx),(dx,.attrs 679 [("names",.ref nm),("terminal_count",C0 G.tc),("lefts",.ref lf),("lengths",.ref le),("befores",.ref be),("defaults",.ref d),("numbers",.ref nb)]),(d,PO.list []),(nb,.dict es m)] []) rfl (fJ (A9 zt (by decide))) ⟨[],0,rfl,D7 _,L⟩ ?_ λ u B9 ⟨es,m,_,_,L⟩=>s_end (q B9 d nb es m L))))
 intro pre t post u iW R hl hQ;intros hQ es m hZ;delta hZ k1 k2 L;intro hR
 have hZ:=P9 hl;delta hZ hp ht
 rw[B0]at hR
 exact rG 3 L rfl (x:=C0 t) rfl (D8 rfl (L.self rfl)) (I8 rfl rfl (W8 (Str.ofString "") (L.ext _ _ hn) (D1 ht w.tc))) (q:=.str (G.names.getD t (Str.ofString ""))) rfl k1 (H8 k2 (by rw[hp,D9];exact D1 ht (A9 zt (by decide)))) λ m' oA _ L=>s_end (hR .next _ _ trivial trivial ⟨_,m',tN k1 rfl,A9 tM (O1 k2),L⟩ rfl)
structure fP where
 rows:List (Addr×List Int)
 QV:List (Addr×Nat×List (Nat×Int))
 ZB:List Nat
 cl:List (Addr×Cf)
end
structure DM(G:Gr)(τ:PH)(k:Nat)(D:fP):Prop where
 r1:D.rows.length=k
 r2:∀p∈D.rows,τ p.1=some (.list (p.2.map .int))∧p.2.length=G.tc∧∀z∈p.2,Cell G.rules.length z
 g1:D.QV.length=k
 g2:∀p∈D.QV,τ p.1=some (.dict (fR p.2.2) p.2.1)∧∀q∈p.2.2,0<=q.2∧q.2<32768
 d1:D.ZB.length=k
 d2:∀b∈D.ZB,b<G.rules.length
 c1:D.cl.length<=160*k
 c2:∀p∈D.cl,OT τ p.1 p.2
 cs:CS G k (D.cl.map (·.2))
theorem DM.ext{G:Gr}{τ CP:PH}{k:Nat}{D:fP}(E:Ext τ CP)(h:DM G τ k D):DM G CP k D:=
 ⟨h.r1,λ p hp=>⟨E _ _ (h.r2 p hp).1,(h.r2 p hp).2,(h.r2 p hp).3⟩,h.g1,λ p hp=>⟨E _ _ (h.g2 p hp).1,(h.g2 p hp).2⟩,h.d1,h.d2,h.c1,λ p hp=>(h.c2 p hp).ext E,h.cs⟩
abbrev Gx(c4 c5 c6 c7 c8:Addr)(D:fP):List (Addr×PO):=[(c4,.list (D.rows.map λ p=>.ref p.1)),(c5,.list (D.QV.map λ p=>.ref p.1)),(c6,.list (D.ZB.map C0)),(c7,.list (D.cl.map λ p=>.ref p.1)),(c8,.list [])]
structure wJ(σ:PH)(T:Addr)(A:Au)(G:Gr)(k:Nat)(D:fP):Prop where
 ob:aT σ T 679 (Vl A G.tc)
 nm:σ A.nm=some (.list (G.names.map .str))
 lf:σ A.lf=some (.list (Km G))
 rl:σ A.rl=some (.list (D.rows.map λ p=>.ref p.1))
 gl:σ A.gl=some (.list (D.QV.map λ p=>.ref p.1))
 dl:σ A.dl=some (.list (D.ZB.map C0))
 cl:σ A.cl=some (.list (D.cl.map λ p=>.ref p.1))
 sl:σ A.sl=some (.list [])
 p:DM G σ k D
theorem wJ.ext{σ B9:PH}(E:Ext σ B9){T:Addr}{A:Au}{G:Gr}{k:Nat}{D:fP}(h:wJ σ T A G k D):wJ B9 T A G k D:=⟨h.ob.ext E,E _ _ h.nm,E _ _ h.lf,E _ _ h.rl,E _ _ h.gl,E _ _ h.dl,E _ _ h.cl,E _ _ h.sl,h.p.ext E⟩
section
variable{W:Wd}(P:dR W){n:Nat}{σ:PH}{g:Addr}{G:Gr}{Q:PV->PH->Prop}(w:G.Wf)(hG:qA σ g G)
theorem LK{ρ:List PV}{K:Fl->List PV->PH->Prop}{e:PE}{i:Nat}(h:(wp W tb n e).v ρ σ λ x B4=>K .next (ρ.set i x) B4):ws W tb n (.asg i e) ρ σ K:=h
include P w hG
theorem ZY{rl gl dl cl sl:Addr}(q:∀T nm lf le be nb B9,Ext σ B9->aT B9 T 679 (Vl ⟨g,nm,lf,le,be,nb,rl,gl,dl,cl,sl⟩ G.tc)->B9 nm=some (.list (G.names.map .str))->B9 lf=some (.list (Km G))->Q (.ref T) B9):J9 W (n+3) (.ref 679) [.ref g,.ref rl,.ref gl,.ref dl,.ref cl,.ref sl,.str (Str.ofString "lalr")] σ Q:=by
 refine A0 (hG.names) λ nm hZ=>?_;delta hZ n1 n2
 refine ee2.e (zU hG w) λ ru ra hZ=>?_;delta hZ r1 r2 r3 r4 r5
 refine P.cls 8 rfl λ x dx ne hx Nv=>P.wI rfl ?_
 have L:Led σ ((σ.set dx (.attrs 679 [])).set x (.inst 679 dx)) [(x,.inst 679 dx),(dx,.attrs 679 [])] []:=by
  have h1:Led σ _ [(dx,.attrs 679 [])] []:=(Led.start σ).alloc Nv (.attrs 679 [])
  exact h1.add (c:=x) (by rw[PH.U0 _ _ ne];exact hx) (.inst 679 dx) (X:=[]) (Y:=[(dx,.attrs 679 [])]) (L':=[(x,.inst 679 dx),(dx,.attrs 679 [])]) (R':=[]) rfl rfl
 generalize (σ.set dx _).set x _=aL at L ⊢
 have it:=λ{B9} (E:Ext σ B9)=>V6 (σ:=B9) (E _ _ (show σ ru=some (.list ((List.range G.rules.length).map λ i=>.ref (ra.getD i 0))) by rw[r2,fH,r3])) (by rw[A8,D9];exact A9 w.rules (by decide))
 have Vs:∀{B9} (E:Ext σ B9) i,i∈List.range G.rules.length->aC B9 (ra.getD i 0) i (G.rules.getD i oF):=λ E i hi=>by
  refine A0 (r5 i (N1.mp hi)) λ r hZ=>?_;delta hZ e hZ h
  rw[show G.rules.getD i oF=r from by rw[C2,e];rfl]
  exact h.ext E
 refine LK (gT (l:=List.range G.rules.length) (f:=λ i=>.ref (ra.getD i 0)) (g:=λ i=>C0 (G.rules.getD i oF).left) L (D8 rfl (U8 L.ext r1)) (it L.ext) (λ _ _=>rfl) (λ i hi R hR=>P2 (D8 rfl (Vs L.ext i hi).left) hR) λ lf W9 E2 L=>⟨rfl,?_⟩)
 refine LK (gT (l:=List.range G.rules.length) (f:=λ i=>.ref (ra.getD i 0)) (g:=λ i=>C0 (G.rules.getD i oF).right.length) L (D8 rfl (U8 L.ext r1)) (it L.ext) (λ _ _=>rfl) (λ i hi R hR=>P2 (V8 (D8 rfl (Vs L.ext i hi).right) (pV (A8 ..))) hR) λ le Y9 E3 L=>⟨rfl,?_⟩)
 refine LK (gT (l:=List.range G.rules.length) (f:=λ i=>.ref (ra.getD i 0)) (g:=λ i=>.int 0) L (D8 rfl (U8 L.ext r1)) (it L.ext) (λ _ _=>rfl) (λ i hi R hR=>let⟨_,o⟩:=Vs L.ext i hi;P2 (D8 rfl (o.fld _)) hR) λ be bM E4 L=>⟨rfl,?_⟩)
 refine L.fz λ τ E L gB=>⟨x,dx,rfl,L.get 0 rfl,F9 (P2 (D8 rfl (U8 (E.trans L.ext) n1)) (F9 (P2 (D8 rfl (hG.ext (E.trans L.ext)).tc) (F9 (P2 rfl (F9 (P2 rfl (F9 (P2 rfl (M0 (UK P w (E _ _ n2) L λ cI d nb es m L=>?_)))))))))))⟩
 have cx:x≠dx:=ne
 refine tC (C:=679) (dx:=dx) rfl cx 7 _ rfl (L.get 0 rfl) (L.get 1 rfl) ?_
 have L:=L.set 1 rfl (.attrs 679 (Vl ⟨g,nm,lf,le,be,nb,rl,gl,dl,cl,sl⟩ G.tc))
 exact s_end ⟨rfl,q x nm lf le be nb _ (E.trans L.ext) (L.obj 0 1 rfl rfl) (L.ext _ _ (E _ _ n2)) (L.ext _ _ (gB _ (.head _)))⟩
end
theorem DM.add{G:Gr}{τ CP:PH}{k:Nat}{D:fP}(E:Ext τ CP)(h:DM G τ k D){r gA:Addr}{rr:List Int}{m b:Nat}{go:List (Nat×Int)}{cl:List (Addr×Cf)}(h1:CP r=some (.list (rr.map .int)))(h2:rr.length=G.tc)(h3:∀z∈rr,Cell G.rules.length z)
  (h4:CP gA=some (.dict (fR go) m))(h5:∀q∈go,0<=q.2∧q.2<32768)(h6:b<G.rules.length)(h7:cl.length<=160)(h8:∀p∈cl,OT CP p.1 p.2)(h9:CG G k G.tc (cl.map (·.2))):DM G CP (k+1) ⟨D.rows++[(r,rr)],D.QV++[(gA,m,go)],D.ZB++[b],D.cl++cl⟩:=by
 have h:=h.ext E
 refine⟨by rw[B0,h.r1];rfl,T8 h.r2 ⟨h1,h2,h3⟩,by rw[B0,h.g1];rfl,T8 h.g2 ⟨h4,h5⟩,by rw[B0,h.d1];rfl,T8 h.d2 h6,?_,λ p hp=>(G9.mp hp).elim (h.c2 p) (h8 p),⟨_,_,h.cs,h9,C1⟩⟩
 rw[B0];exact S0 h.c1 h7
theorem Bv{c4 c5 c6 c7 c8:Addr}{l4 l5 l6 l7 l8:List PV}:∀p∈[(c4,PO.list l4),(c5,.list l5),(c6,.list l6),(c7,.list l7),(c8,.list l8)],∃xs,p.2=.list xs:=by
 intro p hp
 rcases F8.mp hp with rfl|hp;exact⟨_,rfl⟩
 rcases F8.mp hp with rfl|hp;exact⟨_,rfl⟩
 rcases F8.mp hp with rfl|hp;exact⟨_,rfl⟩
 rcases F8.mp hp with rfl|hp;exact⟨_,rfl⟩
 exact⟨_,C7 Prod.snd (D5.mp hp)⟩
section
variable{W:Wd}(P:dR W){n:Nat}{σ:PH}{g a t:Addr}{As:List SA}{S:List St}{G:Gr}{Q:PV->PH->Prop}(w:G.Wf)(hG:qA σ g G)(hA:KS σ a g t As S)(au:yL G S)
include P w hG hA au
theorem Mp{ma:Addr}{ms:List (PK×PV)}{m':Nat}(hm:σ ma=some (.dict ms m'))(M:MI G S ms){wd:Bool}(q:∀T A D B9,Ext σ B9->wJ B9 T A G S.length D->A.g=g->Q (.ref T) B9):J9 W (n+4) (.ref 755) [.ref a,.ref ma,.bool wd,.str (Str.ofString "lalr")] σ Q:=by
 refine P.fn WK 55 rfl (ρ:=[.ref a,.ref ma,.bool wd,.str (Str.ofString "lalr"),.M7,.M7,.M7,.M7,.M7,.M7,.M7,.M7,.M7]) rfl ?_
 refine K1 (K7 (Led.start σ) rfl λ c4 aL L=>K1 (K7 L rfl λ c5 W9 L=>K1 (K7 L rfl λ c6 Y9 L=>K1 (K7 L rfl λ c7 bM L=>K1 (K7 L rfl λ c8 cI L=>?_)))))
 let F:(Nat->PV)->List PV:=λ v=>[.ref a,.ref ma,.bool wd,.str (Str.ofString "lalr"),.ref c4,.ref c5,.ref c6,.ref c7,.ref c8,v 9,v 10,v 11,v 12]
 have zS:=au.len
 refine eZ F (l:=List.range S.length) (f:=λ i=>.ref (As.getD i CQ).a) (v:=.ref t) (λ pre _ B9=>∃τ D,Ext σ τ∧Led τ B9 (Gx c4 c5 c6 c7 c8 D) []∧DM G τ pre.length D) rfl (D8 rfl ((hA.ext L.ext).ob.fld _)) ((hA.ext L.ext).it zS)
  ⟨σ,⟨[],[],[],[]⟩,.refl σ,L,rfl,λ _ h=>(nomatch h),rfl,λ _ h=>(nomatch h),rfl,λ _ h=>(nomatch h),K3 _,λ _ h=>(nomatch h),rfl⟩ ?_ ?_
 ·intro pre i post u eM R hl hQ;intros hQ τ D hZ;delta hZ E0 L1 H;intro hR
  have hZ:=P9 hl;delta hZ hp hi
  have e1:(pre++[i]).length=pre.length+1:=B0
  rw[e1]at hR
  have hk:pre.length=i:=by rw[hp,D9]
  rw[hk]at hR H
  have hS:i<32768:=D1 hi zS
  clear hp e1 hk hl
  have E:=E0.trans L1.ext
  refine K1 (H7 (I9 (D8 rfl ((hA.ext E).ob.fld _)) (I9 rfl (p1 rfl))) (OC (n:=n+1) P w (hG.ext E) (hA.ext E) au hi (E _ _ hm) M λ x dx eX B M1 hB=>?_))
  refine Led.keep (L:=Gx c4 c5 c6 c7 c8 D) (X:=[]) ((C9 (Gx c4 c5 c6 c7 c8 D)).symm▸L1.join M1) λ IF E1 L2 gB=>?_
  have hD:OQ IF x g i B:=Pp gB
  have G1:=hG.ext (E0.trans E1)
  refine N4 (J1 rfl ((hD.ext L2.ext).ob.H2 "settle_levels" rfl rfl) rfl (UF (n:=n+1) P w (G1.ext L2.ext) (hD.ext L2.ext) hB λ qC E2=>?_))
  have L3:=L2.grow E2
  refine K1 (J1 rfl ((hD.ext L3.ext).ob.H2 "row" rfl rfl) rfl (Sh (n:=n+1) P w (G1.ext L3.ext) (hD.ext L3.ext) hB λ r IG rr E3 hr zr cr h=>?_))
  refine Led.keep (L:=Gx c4 c5 c6 c7 c8 D) (L3.adopt E3 hr h) λ On E4 L4 gB=>?_
  have hr:=gB _ (.head _)
  have hD:=hD.ext E4
  have G1:=G1.ext E4
  refine N4 (T0 rfl (N9 (L4.get 3 rfl) _) (F9 (J1 rfl ((hD.ext L4.ext).ob.H2 "conflicts" rfl rfl) (p1 rfl) (Mq (n:=n) P w (G1.ext L4.ext) (hD.ext L4.ext) hB (L4.ext _ _ hr) zr λ cc iW lc I hC=>M0 ?_))))
  intros I di hZ;intros hZ cl Q0;generalize Q0.1=Ec,Q0.2=Lc,Q0.3=TM;clear E2 E3 G1 M au hi hm m' ms post pre zS;obtain rfl:=Q0.4;try clear Q0
  have o8:cl.length<=160:=(A8 (as:=cl) (·.2))▸A9 hC.len (fB 16 (A9 w.tc w.names))
  refine(L4.grow (Ec.trans Lc.ext)).rb Bv λ UX E5 L5 hO=>?_
  have Uf:∀p∈cl,OT UX p.1 p.2:=λ p hp=>let⟨w,o⟩:=TM p hp;⟨w,hO _ _ _ (o.ext Lc.ext)⟩
  have hD:=hD.ext E5
  have hr:=E5 _ _ hr
  have k7:=(((E0.trans E1).trans E4).trans E5)
  have H:=H.ext ((E1.trans E4).trans E5)
  refine NA 3 L5 rfl (Lc.get 0 rfl) ?_ λ oA _ L6=>?_
  ·rw[A8,A8];have:=H.c1;lia
  replace L6:Led UX oA (Gx c4 c5 c6 c7 c8 ⟨D.rows,D.QV,D.ZB,D.cl++cl⟩) []:=by show Led _ _ [_,_,_,(c7,.list (List.map _ (D.cl++cl))),_] _;rw[C1];exact L6
  clear L1 L2 L3 L4 L5 Lc TM hO M1
  refine N4 (J1 rfl (N9 (L6.get 4 rfl) _) (p1 (D8 rfl ((hD.ext L6.ext).ob.fld _))) (NA 4 L6 rfl (hD.ext L6.ext).st (K3 _) λ rB _ L7=>?_))
  replace L7:Led UX rB (Gx c4 c5 c6 c7 c8 ⟨D.rows,D.QV,D.ZB,D.cl++cl⟩) []:=L7
  refine P3 rfl (oT (λ O5 B9=>∃b,b<G.rules.length∧O5=[.ref a,.ref ma,.bool wd,.str (Str.ofString "lalr"),.ref c4,.ref c5,.ref c6,.ref c7,.ref c8,.ref (As.getD i CQ).a,.ref x,.ref r,C0 b]∧Ext rB B9) ?_ λ R1 yF=>uT (t:=wd) rfl ⟨λ _=>K1 (H7 (p1 rfl) (UJ (n:=n+2) P w (L7.ext _ _ hr) zr cr λ B9 b E hb=>s_end (yF _ _ ⟨b,hb,rfl,E⟩))),λ _=>s_end (yF _ _ ⟨0,w.pos,rfl,.refl _⟩)⟩)
  intro _ FS hQ;intros hQ b hZ;generalize hZ.1=hb;obtain rfl:=hZ.2;delta hZ hZ hZ E6
  have L8:=L7.grow E6
  refine oT (λ O5 B9=>∃r' Nm CP,O5=[.ref a,.ref ma,.bool wd,.str (Str.ofString "lalr"),.ref c4,.ref c5,.ref c6,.ref c7,.ref c8,.ref (As.getD i CQ).a,.ref x,.ref r',C0 b]∧Ext UX CP∧Led CP B9 (Gx c4 c5 c6 c7 c8 ⟨D.rows,D.QV,D.ZB,D.cl++cl⟩) []∧CP r'=some (.list (Nm.map .int))∧Nm.length=G.tc∧∀z∈Nm,Cell G.rules.length z) ?_
   λ R2 bS=>uT (N3 rfl rfl rfl) ⟨λ _=>K1 (H7 (I9 rfl (p1 rfl)) (UD (n:=n+2) P w (L8.ext _ _ hr) zr cr λ r' B9 Nm E Ww z c h=>?_)),λ _=>s_end (bS _ _ ⟨r,rr,UX,rfl,.refl _,L8,hr,zr,cr⟩)⟩
  ·intro _ Op hQ;intros hQ r' Nm Om hZ;obtain rfl:=hZ.1;delta hZ hZ E7 L9 Ww o7 cw
   have z1:∀{α:Type} {l:List α} {f:α->PV},l.length=i->(l.map f).length<=2^24:=λ h=>lz h (A9 (M8 hS) (by decide))
   refine N4 (aH 0 (x:=.ref r') L9 rfl rfl rfl (z1 H.r1) λ Iw _ OO=>N4 (aH 1 (x:=.ref B.gA) OO rfl rfl (D8 rfl ((hD.ext (E7.trans OO.ext)).ob.fld _)) (z1 H.g1) λ Oo _ Gm=>N4 (aH 2 (x:=C0 b) Gm rfl rfl rfl (z1 H.d1) λ Bq _ Gl=>s_end (hR .next _ _ trivial (((k7.trans E7).trans Gl.ext _ _ hA.sl).trans (L.ext _ _ hA.sl).symm)
    ⟨Om,_,k7.trans E7,?_,H.add E7 Ww o7 cw (E7 _ _ hD.go) hB.go hb o8 (λ p hp=>(Uf p hp).ext E7) hC⟩ rfl))))
   show Led Om Bq [(c4,.list (List.map _ (D.rows++[_]))),(c5,.list (List.map _ (D.QV++[_]))),(c6,.list (List.map _ (D.ZB++[_]))),_,_] _
   rw[C1,C1,C1]
   exact Gl
  ·exact Led.keep (L:=Gx c4 c5 c6 c7 c8 ⟨D.rows,D.QV,D.ZB,D.cl++cl⟩) (L8.adopt E Ww h) λ Om E L gB=>s_end (bS _ _ ⟨r',Nm,Om,rfl,E,L,gB _ (.head _),z,c⟩)
 ·intro u eM hQ;intros hQ τ D hZ;delta hZ E L H
  rw[D9]at H
  refine W3 (H7 (I9 (D8 rfl ((hA.ext (E.trans L.ext)).ob.fld _)) (I9 rfl (I9 rfl (I9 rfl (I9 rfl (I9 rfl (p1 rfl))))))) (ZY (n:=n) P w (hG.ext (E.trans L.ext)) λ T nm lf le be nb eX E7 O hn hl=>?_))
  have X:=L.grow E7
  exact q T ⟨g,nm,lf,le,be,nb,c4,c5,c6,c7,c8⟩ D eX (E.trans X.ext) ⟨O,hn,hl,X.get 0 rfl,X.get 1 rfl,X.get 2 rfl,X.get 3 rfl,X.get 4 rfl,H.ext X.ext⟩ rfl
end
structure Oc where
 a:Addr
 t:Addr
 cA:Addr
 ma:Addr
 As:List SA
 ms:List (PK×PV)
 m:Nat
structure Iu(σ:PH)(V g:Addr)(B:Oc)(G:Gr)(S:List St):Prop where
 ob:aT σ V 811 [("grammar",.ref g),("automaton",.ref B.a),("cores",.ref B.cA),("masks",.ref B.ma)]
 ia:KS σ B.a g B.t B.As S
 co:σ B.cA=some (.list ((List.range S.length).map λ i=>.tup ((S.getD i aB).k.map C0)))
 ma:σ B.ma=some (.dict B.ms B.m)
 mi:MI G S B.ms
theorem Iu.ext{σ B9:PH}(E:Ext σ B9){V g:Addr}{B:Oc}{G:Gr}{S:List St}(h:Iu σ V g B G S):Iu B9 V g B G S:=⟨h.ob.ext E,h.ia.ext E,E _ _ h.co,E _ _ h.ma,h.mi⟩
section
variable{W:Wd}(P:dR W){n:Nat}{σ:PH}{g:Addr}{G:Gr}{Q:PV->PH->Prop}(w:G.Wf)(hG:qA σ g G)
include P w hG
theorem Fq{wd:Bool}(q:∀T A D N B9,Ext σ B9->G.IsT N->wJ B9 T A G (G.sG N).length D->Q (.ref T) B9):J9 W (n+8) (.ref 763) [.ref g,.bool wd] σ Q:=
 P.fn qO 56 rfl (ρ:=[.ref g,.bool wd,.M7]) rfl (K1 (H7 rfl (RX (n:=n) P w P.ok hG λ a N t As aL E1 hN hA=>W3 (T5 (F9 (T5 (F9 (P2 rfl (F9 (H7 rfl (RV (n:=n+1) P w (hG.ext E1) hA (uJ w hN) λ ma W9 ms m E2 hm M=>F9 (P2 rfl (F9 (P2 rfl (M0 (Mp (n:=n+3) P w (hG.ext (E1.trans E2)) (hA.ext E2) (uJ w hN) hm M λ T A D Y9 E3 hT hg=>M0
  (P.fn EH 57 rfl (ρ:=[.ref T,.M7,.M7,.M7]) rfl (P3 (x:=.none) (D8 (D8 rfl ((hT.ob.fld _).trans (by rw[<-hg];rfl))) (hG.ext ((E1.trans E2).trans E3)).expect) (dA (t:=false) rfl (λ h=>nomatch h) λ _=>O7 (W3 (P2 rfl (q T A D N Y9 ((E1.trans E2).trans E3) hN hT))))))))))))))))))))))
theorem Fp(q:∀V B N B9,Ext σ B9->G.IsT N->Iu B9 V g B G (G.sG N)->Q (.ref V) B9):J9 W (n+8) (.ref 820) [.ref g] σ Q:=
 P.fn wY 61 rfl (ρ:=[.ref g,.M7]) rfl (K1 (H7 rfl (RX (n:=n) P w P.ok hG λ a N t As aL E1 hN hA=>W3 (T5 (F9 (P2 rfl (F9 (P2 rfl (F9 (gT (l:=List.range (G.sG N).length) (f:=λ i=>.ref (As.getD i CQ).a) (g:=λ i=>.tup (((G.sG N).getD i aB).k.map C0)) (v:=.ref t) (Led.start aL) (D8 rfl (hA.ob.fld _)) (hA.it (uJ w hN).len) (λ _ _=>rfl) (λ i hi R hR=>P2 (D8 rfl ((hA.at (N1.mp hi)).ob.fld _)) hR) λ cA W9 E2 L=>F9 (H7 rfl (RV (n:=n+1) P w (hG.ext (E1.trans E2)) (hA.ext E2) (uJ w hN) λ ma Y9 ms m E3 hm M=>M0
  (tW P wZ 58 10 rfl rfl (O5:=[.ref g,.ref a,.ref cA,.ref ma]) (λ _=>rfl) (λ _=>rfl) λ V bM E4 _ O=>q V ⟨a,t,cA,ma,As,ms,m⟩ N bM (((E1.trans E2).trans E3).trans E4) hN ⟨O,((hA.ext E2).ext E3).ext E4,(E3.trans E4) _ _ (L.get 0 rfl),E4 _ _ hm,M⟩)))))))))))))
end
def Sz(k:Nat)(x:Str):Prop:=x.length<=k
theorem Sz.app{a b:Nat}{x y:Str}(h:Sz a x)(h':Sz b y):Sz (a+b) (x++y):=A9 (X0 (R7 x y)) (S0 h h')
theorem Sz.lit{k:Nat}{x:Str}(h:Nat.ble x.length k=true):Sz k x:=C3 h
theorem Sz.mono{a b:Nat}{x:Str}(h:Sz a x)(h':a<=b):Sz b x:=A9 h h'
theorem Sz.join{a b n:Nat}{x:Str}{l:List Str}(h:Sz a x)(hl:∀y∈l,Sz b y)(hn:l.length<=n):(l.map (·.length)).sum+l.length*x.length<=n*b+n*a:=by
 refine S0 (A9 ?_ (Nat.mul_le_mul_right b hn)) (Nat.mul_le_mul hn h)
 clear hn
 induction l with
 |nil=>exact K3 _
 |cons y l ih=>
  rw[I6,qY,H5,Nat.succ_mul,aF]
  exact S0 (ih λ z hz=>hl z (.tail _ hz)) (hl y (.head _))
theorem QW(x:Str)(l:List Str):Txt.join x l=Str.join x l:=StrLaws.glued_eq_join x l
abbrev Z4(i:Int):Str:=Str.ofString (toString i)
theorem Sz.Z4{i:Int}(h0:0<=i)(h1:i<32768):Sz 32770 (Z4 i):=by have:=len_str_of_int i;unfold Sz;lia
abbrev oS(s:String):Str:=Str.ofString s
section
variable{W:Wd}{n:Nat}{σ:PH}{ρ:List PV}{e e':PE}{Q:PV->PH->Prop}
theorem w_add{a b:Nat}{x y:Str}(hx:Sz a x)(hy:Sz b y)(hz:Nat.ble (a+b) 16777216=true)(q:Q (.str (x++y)) σ):mO .Add σ Q (.str x) (.str y):=⟨rfl,A9 (S0 hx hy) (C3 hz),q⟩
theorem HS{a b k:Nat}{x:Str}{c:Addr}{l:List Str}(e:σ c=some (.list (l.map .str)))(h:Sz a x)(hl:∀y∈l,Sz b y)(hn:l.length<=k)(hz:Nat.ble (k*b+k*a) 16777216=true)(q:Sz (k*b+k*a) (Str.join x l)->Q (.str (Str.join x l)) σ):J9 W n (.builtin "str.join") [.str x,.ref c] σ Q:=by
 have z:=Sz.join h hl hn
 have z2:=A9 (StrLaws.join_length_le x l) z
 have hz:=C3 hz
 exact Jp e (A9 z hz) (by rw[QW];exact q z2) (by rw[QW];exact A9 z2 hz)
theorem dO{x:Str}{f:String}{m:Value}(h:(GC.lookup f).map .builtin=some m):dZ tb σ (.str x) f=some m:=h
end
abbrev fP.rw(D:fP)(k:Nat):List Int:=(D.rows.getD k (0,[])).2
abbrev fP.df(D:fP)(k:Nat):Nat:=D.ZB.getD k 0
abbrev fP.jY(D:fP)(k t:Nat):Int:=(D.rw k).getD t 0
abbrev fP.goal(D:fP)(k y:Nat):Int:=((D.QV.getD k (0,0,[])).2.2.lookup y).getD (-1)
abbrev aP(G:Gr)(s:Nat):Str:=G.names.getD s sD
section
variable{σ:PH}{T:Addr}{A:Au}{G:Gr}{K k:Nat}{D:fP}
theorem DM.row{τ:PH}(h:DM G τ K D)(hk:k<K):τ (D.rows.getD k (0,[])).1=some (.list ((D.rw k).map .int))∧(D.rw k).length=G.tc∧∀z∈D.rw k,Cell G.rules.length z:=h.r2 _ (B5 (W5 (0,[]) (h.r1▸hk)))
theorem DM.cell{τ:PH}(h:DM G τ K D)(hk:k<K){t:Nat}(ht:t<G.tc):Cell G.rules.length (D.jY k t):=(h.row hk).3 _ (B5 (W5 0 ((h.row hk).2▸ht)))
theorem DM.Yb{τ:PH}(h:DM G τ K D)(hk:k<K):D.df k<G.rules.length:=h.d2 _ (B5 (W5 0 (h.d1▸hk)))
variable{W:Wd}(P:dR W){n:Nat}{Q:PV->PH->Prop}(hT:wJ σ T A G K D)
include P hT
theorem NZ(hk:k<K){t:Nat}(ht:t<G.tc)(q:Q (.int (D.jY k t)) σ):J9 W (n+1) (.ref 669) [.ref T,C0 k,C0 t] σ Q:=
 P.fn dW 46 rfl (ρ:=[.ref T,C0 k,C0 t]) rfl (X8 (I8 (I8 (D8 rfl (hT.ob.fld _)) rfl (W8 (0,[]) hT.rl (hT.p.r1▸hk))) rfl (W8 0 (hT.p.row hk).1 ((hT.p.row hk).2▸ht))) q)
theorem HN(hk:k<K)(q:Q (C0 (D.df k)) σ):J9 W (n+1) (.ref 571) [.ref T,C0 k] σ Q:=
 P.fn kU 42 rfl (ρ:=[.ref T,C0 k]) rfl (X8 (I8 (D8 rfl (hT.ob.fld _)) rfl (W8 0 hT.dl (hT.p.d1▸hk))) q)
theorem Io(q:Q (C0 K) σ):J9 W (n+1) (.ref 662) [.ref T] σ Q:=
 P.fn cP 45 rfl (ρ:=[.ref T]) rfl (X8 (V8 (D8 rfl (hT.ob.fld _)) (len_list hT.rl (by rw[A8,hT.p.r1]))) q)
theorem NY(hk:k<K){y:Nat}(q:Q (.int (D.goal k y)) σ):J9 W (n+1) (.ref 676) [.ref T,C0 k,C0 y] σ Q:=
 P.fn iF 47 rfl (ρ:=[.ref T,C0 k,C0 y]) rfl (W3 (J1 (I8 (D8 rfl (hT.ob.fld _)) rfl (W8 (0,0,[]) hT.gl (hT.p.g1▸hk))) (gX (hT.p.g2 _ (B5 (W5 (0,0,[]) (hT.p.g1▸hk)))).1 _) (I9 rfl (p1 (xD rfl))) (RN P.ok (hT.p.g2 _ (B5 (W5 (0,0,[]) (hT.p.g1▸hk)))).1 q)))
end
def bT(G:Gr)(z:Int):Str:=
 if z=1048576 then oS "accept" else if z>0 then oS "shift, and go to state "++Z4 z else
 if z<0 then oS "reduce using rule "++Z4 (-z)++oS " ("++aP G (G.rules.getD (-z).toNat oF).left++oS ")" else oS "error"
theorem u8{σ:PH}{a:Addr}{G:Gr}(h:σ a=some (.list (Km G))){i:Nat}(hi:i<G.rules.length):gE σ (.ref a) (C0 i)=some (C0 (G.rules.getD i oF).left):=I0 h (V5 (bX hi))
theorem Cell.sz{R:Nat}{z:Int}(h:Cell R z)(hR:R<=6):z=1048576∨(And (-6<z) (z<32768)):=h.imp id λ h=>⟨by lia,h.2⟩
def Short(G:Gr):Prop:=∀x∈G.names,Sz 10 x
theorem Short.nm{G:Gr}(h:Short G)(s:Nat):Sz 10 (aP G s):=by
 show Sz 10 (G.names.getD s sD)
 rw[C2]
 cases e:G.names[s]? with
 |none=>exact K3 _
 |some x=>exact h x (B5 e)
theorem uL{G:Gr}(w:G.Wf)(sh:Short G){z:Int}(h:Cell G.rules.length z):Sz 33000 (bT G z):=by
 unfold bT
 split
 ·exact .lit rfl
 ·rename_i h1
  have h:=(h.sz w.rules).resolve_left h1
  split
  ·exact((.lit rfl:Sz 30 _).app (Sz.Z4 (by lia) (by lia))).mono (C3 rfl)
  ·split
   ·exact(((((.lit rfl:Sz 30 _).app (Sz.Z4 (by lia) (by lia))).app (.lit rfl:Sz 2 _)).app (sh.nm _)).app (.lit rfl:Sz 2 _)).mono (C3 rfl)
   ·exact .lit rfl
section
variable{W:Wd}(P:dR W){n:Nat}{σ:PH}{T:Addr}{A:Au}{G:Gr}{K k:Nat}{D:fP}{Q:PV->PH->Prop}(w:G.Wf)(sh:Short G)(hT:wJ σ T A G K D)
include P w sh hT
theorem ZW{z:Int}(hz:Cell G.rules.length z)(q:Q (.str (bT G z)) σ):J9 W (n+1) (.ref 613) [.ref T,.int z] σ Q:=by
 unfold bT at q
 refine P.fn qN 43 rfl (ρ:=[.ref T,.int z]) rfl (dA (t:=decide (z=1048576)) (N3 rfl rfl rfl) (λ c=>qS (P2 rfl (by rw[F7 (D0 c)]at q;exact q))) λ c=>O7 ?_)
 have c:=K6 c
 rw[G0 c]at q
 have eq:=hz.resolve_left c
 have hz:=(hz.sz w.rules).resolve_left c
 refine dA (t:=decide (z= -1048576)) (N3 rfl rfl rfl) (λ c=>absurd (D0 c) (by lia)) λ _=>O7 (dA (t:=decide (z>0)) (N3 rfl rfl rfl) (λ c=>?_) λ c=>O7 ?_)
 ·rw[F7 (D0 c)]at q
  have c:=D0 c
  exact qS (O6 (P2 rfl (H7 (p1 rfl) (CE (by lia) (w_add (.lit rfl:Sz 30 _) (Sz.Z4 (by lia) hz.2) rfl q)))))
 ·have c:=K6 c
  rw[G0 c]at q
  refine dA (t:=decide (z<0)) (N3 rfl rfl rfl) (λ c=>?_) λ c=>O7 (X8 rfl (by rw[G0 (K6 c)]at q;exact q))
  have c:=D0 c
  rw[F7 c]at q
  clear c;obtain⟨i,rfl⟩:∃i:Nat,z= -(i:Int):=⟨(-z).toNat,by lia⟩
  rw[Int.neg_neg,bA]at q
  have hi:i<G.rules.length:=by lia
  have z1:Sz 32770 (Z4 i):=Sz.Z4 (G6 i) (by lia)
  have s1:=(.lit rfl:Sz 30 (oS "reduce using rule ")).app z1
  have s2:=s1.app (.lit rfl:Sz 2 (oS " ("))
  exact qS (O6 (O6 (O6 (O6 (P2 rfl (H7 (p1 (GN rfl)) (CE (by lia) (w_add (.lit rfl:Sz 30 _) z1 rfl (P2 rfl (w_add s1 (.lit rfl:Sz 2 _) rfl (P2 (I8 (D8 rfl (hT.ob.fld _)) (I8 (D8 rfl (hT.ob.fld _)) (GN rfl) (u8 hT.lf hi)) (W8 sD hT.nm (w.left _ (B5 (W5 oF hi))))) (w_add s2 (sh.nm _) rfl (P2 rfl (w_add (s2.app (sh.nm _)) (.lit rfl:Sz 2 _) rfl q))))))))))))))
end
section
variable{α:Type}[DecidableEq α]
def ad(acc:List α)(x:α):List α:=if x∈acc then acc else acc++[x]
theorem CK{acc:List α}{x:α}(h:x∈acc):ad acc x=acc:=F7 h
theorem CL{acc:List α}{x:α}(h:x∉acc):ad acc x=acc++[x]:=G0 h
theorem Mw{acc:List α}{x y:α}:y∈ad acc x↔y∈acc∨y=x:=by
 by_cases h:x∈acc
 ·rw[CK h];exact⟨.inl,λ e=>e.elim id λ e=>e▸h⟩
 ·rw[CL h,G9,D5]
theorem pZ{y:α}:∀{l acc:List α},y∈l.foldl ad acc↔y∈acc∨y∈l
 |[],acc=>⟨.inl,λ e=>e.elim id λ h=>nomatch h⟩
 |x::l,acc=>by rw[J0,pZ,Mw,F8,or_assoc]
theorem HX:∀{l acc:List α},(∀x∈l,x∈acc)->l.foldl ad acc=acc
 |[],_,_=>rfl
 |x::l,acc,h=>by rw[J0,CK (h x (.head _))];exact HX λ y hy=>h y (.tail _ hy)
theorem HY:∀{l acc:List α},l.Nodup->(∀x∈l,x∉acc)->l.foldl ad acc=acc++l
 |[],_,_,_=>(C9 _).symm
 |x::l,acc,nd,h=>by
  rw[J0,CL (h x (.head _)),HY (N7.mp nd).2 λ y hy m=>?_,C6];rfl
  exact(G9.mp m).elim (h y (.tail _ hy)) λ e=>(N7.mp nd).1 (D5.mp e▸hy)
theorem Sq{acc:List α}{x:α}(h:acc.Nodup):(ad acc x).Nodup:=by
 by_cases e:x∈acc
 ·rw[CK e];exact h
 ·rw[CL e];exact O8.mpr ⟨h,.cons (λ _ h=>nomatch h) .nil,λ a ha b hb c=>e (D5.mp hb▸c▸ha)⟩
theorem OJ:∀{l acc:List α},acc.Nodup->(l.foldl ad acc).Nodup
 |[],_,h=>h
 |_::_,_,h=>by rw[J0];exact OJ (Sq h)
end
def vM(ch:Int)(r:Nat):Bool:=!decide (ch= -(r:Int))
structure Us(G:Gr)(rs:List Nat):Prop where
 lt:∀r∈rs,1<=r∧r<G.rules.length
 z:rs.length<=15
def PQ(c:Cf):List Nat:=c.rs.filter (vM c.ch)
def Dt(rs:List Nat)(sr:Bool)(ch:Int):List Nat:=if(sr||decide (2<=rs.length))=true then rs.filter (vM ch)else[]
section
variable{β:Type}[DecidableEq β]
theorem PZ{p:Nat->List β}{r:Nat}:∀{ys:List Nat} {acc:List β},(∀x∈p r,x∈acc)->(ys.flatMap λ y=>p r++p y).foldl ad acc=(ys.flatMap p).foldl ad acc
 |[],_,_=>rfl
 |y::ys,acc,h=>by
  rw[Z7,Z7,K9,K9,K9,HX h]
  exact PZ λ x hx=>pZ.mpr (.inl (h x hx))
theorem Cg{p:Nat->List β}{r y:Nat}{ys:List Nat}{acc:List β}:((p r++p y)++ys.flatMap λ y=>p r++p y).foldl ad acc=(p r++(p y++ys.flatMap p)).foldl ad acc:=by
 rw[K9,PZ λ x hx=>pZ.mpr (.inr (H0 _ hx)),<-K9,C6]
theorem XX{i t:Nat}{rs:List Nat}{sr:Bool}{ch:Int}(f:Nat->β)(acc:List β):((yI i t rs sr ch).flatMap λ c=>(PQ c).map f).foldl ad acc=((Dt rs sr ch).map f).foldl ad acc:=by
 have fm:∀l:List Nat,(l.filter (vM ch)).map f=l.flatMap λ y=>([y].filter (vM ch)).map f:=λ l=>by
  induction l with
  |nil=>rfl
  |cons y l ih=>rw[Z7,<-ih,<-C1,<-G7];rfl
 unfold yI Dt
 cases rs with
 |nil=>cases sr<;>rfl
 |cons r ys=>
  have e2:(((r::ys).drop 1).map λ y=>(⟨i,t,[(r::ys).getD 0 0,y],ch⟩:Cf)).flatMap (λ c=>(PQ c).map f)=ys.flatMap λ y=>([r].filter (vM ch)).map f++([y].filter (vM ch)).map f:=by
   rw[List.flatMap_map]
   refine C7 (List.flatMap · ys) (funext λ y=>?_)
   rw[<-C1,<-G7];rfl
  rw[Q7,e2,K9]
  clear e2;cases sr with
  |true=>
   show(ys.flatMap _).foldl ad ((([⟨i,t,r::ys,ch⟩]:List Cf).flatMap λ c=>(PQ c).map f).foldl ad acc)=(((r::ys).filter (vM ch)).map f).foldl ad acc
   rw[Q2]
   show(ys.flatMap _).foldl ad ((((r::ys).filter (vM ch)).map f).foldl ad acc)=_
   refine HX λ x hx=>pZ.mpr (.inr ?_)
   refine A0 (P6.mp hx) λ y hZ=>?_;delta hZ hy hx
   rw[fm,Z7]
   exact(G9.mp hx).elim (H0 _) λ h=>G4 _ (P6.mpr ⟨y,hy,h⟩)
  |false=>
   show(ys.flatMap _).foldl ad acc=_
   cases ys with
   |nil=>rfl
   |cons y ys=>
    rw[F7 (by rfl),fm (r::y::ys)]
    exact Cg (p:=λ y=>([y].filter (vM ch)).map f)
end
def lst(l:List Cf)(t:Nat):List Nat:=((l.filter λ c=>c.t==t).flatMap PQ).foldl ad []
theorem uH{G:Gr}{i t:Nat}{rs:List Nat}{sr:Bool}{ch:Int}(h:Sv G rs){c:Cf}(hc:c∈yI i t rs sr ch):c.s=i∧c.t=t∧Us G c.rs:=by
 rcases G9.mp hc with hc|hc
 ·split at hc
  ·rewrite[D5.mp hc];exact⟨rfl,rfl,h.lt,h.z⟩
  ·nomatch hc
 ·refine A0 (D2.mp hc) λ y hZ=>?_;generalize hZ.1=hy;clear hc;obtain rfl:=hZ.2;try clear hZ
  have hy:=kJ hy
  exact⟨rfl,rfl,λ r hr=>(F8.mp hr).elim (λ e=>h.lt r (e▸B5 (W5 0 (List.length_pos_of_mem hy)))) λ e=>h.lt r (D5.mp e▸hy),C3 rfl⟩
theorem CG.mem{G:Gr}{i:Nat}:∀{b:Nat} {l:List Cf},CG G i b l->∀c∈l,c.s=i∧c.t<b∧Us G c.rs
 |0,_,h,c,hc=>by rw[show _=[]from h]at hc;nomatch hc
 |b+1,_,⟨l',rs,sr,ch,h,hr,e⟩,c,hc=>by
  rw[e]at hc
  rcases G9.mp hc with hc|hc
  ·have:=h.mem c hc;exact⟨this.1,dJ this.2,this.3⟩
  ·have:=uH hr hc;exact⟨this.1,this.2▸K5 _,this.3⟩
structure Nk(G:Gr)(L:List Nat):Prop where
 as:L.Pairwise (·<·)
 lt:∀r∈L,1<=r∧r<G.rules.length
theorem Ta{G:Gr}{rs:List Nat}{sr:Bool}{ch:Int}(h:Sv G rs):Nk G (Dt rs sr ch):=by
 unfold Dt
 split
 ·exact⟨h.as.filter _,λ r hr=>h.lt r (J5.mp hr).1⟩
 ·exact⟨.nil,λ _ h=>(nomatch h)⟩
theorem CG.lst{G:Gr}{i:Nat}{β:Type}[DecidableEq β]{f:Nat->Nat->β}(hf:∀t u r s,t<G.tc->u<G.tc->f t r=f u s->t=u∧r=s):∀{b:Nat} {l:List Cf},b<=G.tc->CG G i b l->
  (l.flatMap λ c=>(PQ c).map (f c.t)).foldl ad []=((List.range b).flatMap λ t=>(lst l t).map (f t))∧∀t,Nk G (Mine.Internal.lst l t)∧(b<=t->Mine.Internal.lst l t=[])
 |0,_,_,h=>by rw[show _=[]from h];exact⟨rfl,λ t=>⟨⟨.nil,λ _ h=>(nomatch h)⟩,λ _=>rfl⟩⟩
 |b+1,_,hb,⟨l',rs,sr,ch,h,hr,e⟩=>by
  have hZ:=CG.lst hf (hY hb) h;delta hZ h1 h2
  have ok:=Ta (sr:=sr) (ch:=ch) hr
  have nd:=ok.as.imp U6
  have e0:Mine.Internal.lst (l'++yI i b rs sr ch) b=Dt rs sr ch:=by
   unfold Mine.Internal.lst
   rw[G7,(R3 (l:=l')).mpr λ c hc e=>U6 (h.mem c hc).2 (eq_of_beq e),(fC (l:=yI i b rs sr ch)).mpr λ c hc=>jM.mpr (uH hr hc).2]
   have:=XX (i:=i) (t:=b) (rs:=rs) (sr:=sr) (ch:=ch) id []
   rw[gL,show(λ c:Cf=>(PQ c).map id)=PQ from funext λ c=>gL _]at this
   exact this.trans ((HY nd λ _ _=>eQ).trans (X6 _))
  have e1:∀t,t≠b->Mine.Internal.lst (l'++yI i b rs sr ch) t=Mine.Internal.lst l' t:=λ t ne=>by
   unfold Mine.Internal.lst
   rw[G7,(R3 (l:=yI i b rs sr ch)).mpr λ c hc e=>ne ((eq_of_beq e).symm.trans (uH hr hc).2),C9]
  rw[e]
  refine⟨?_,λ t=>?_⟩
  ·have e2:(yI i b rs sr ch).flatMap (λ c=>(PQ c).map (f c.t))=(yI i b rs sr ch).flatMap λ c=>(PQ c).map (f b):=by
    rw[sM,sM]
    exact C7 List.flatten (P1 λ c hc=>by rw[(uH hr hc).2])
   rw[Q7,K9,h1,e2,XX,List.range_succ,Q7,Q2,e0,HY]
   ·refine C7 (·++_) ?_
    rw[sM,sM]
    exact C7 List.flatten (P1 λ t ht=>by rw[e1 t (U6 (N1.mp ht))])
   ·exact X4.mpr (nd.imp λ ne e=>ne (hf _ _ _ _ hb hb e).2)
   ·intro x hx Wq
    refine A0 (D2.mp hx) λ r hZ=>?_;obtain rfl:=hZ.2;try clear hZ
    refine A0 (P6.mp Wq) λ t hZ=>?_;delta hZ ht Wq
    refine A0 (D2.mp Wq) λ s hZ=>?_;delta hZ hZ e
    have ht:=N1.mp ht
    exact U6 ht (hf _ _ _ _ (nN ht hb) hb e).1
  ·by_cases c:t=b
   ·rw[c,e0];exact⟨ok,λ h=>absurd h (Nat.not_succ_le_self _)⟩
   ·rw[e1 t c];exact⟨(h2 t).1,λ h=>(h2 t).2 (hY h)⟩
theorem CS.st{G:Gr}{k:Nat}:∀{K:Nat} {l:List Cf},CS G K l->(∀c∈l,c.s<K∧c.t<G.tc∧Us G c.rs)∧(k<K->∃m,CG G k G.tc m∧l.filter (λ c=>c.s==k)=m)
 |0,_,h=>by rw[show _=[]from h];exact⟨λ _ h=>(nomatch h),λ h=>(nomatch h)⟩
 |K+1,_,⟨l',m,h,hm,e⟩=>by
  have hZ:=CS.st (k:=k) h;delta hZ h1 h2
  rw[e]
  refine⟨λ c hc=>?_,λ hk=>?_⟩
  ·clear h;rcases G9.mp hc with hc|hc
   ·exact⟨dJ (h1 c hc).1,(h1 c hc).2,(h1 c hc).3⟩
   ·exact⟨(hm.mem c hc).1▸K5 _,(hm.mem c hc).2,(hm.mem c hc).3⟩
  ·rw[G7]
   clear h;rcases Y5.mp hk with hk|rfl
   ·refine A0 (h2 hk) λ m' hZ=>?_;delta hZ g1 g2
    refine⟨m',g1,?_⟩
    rw[g2,(R3 (l:=m)).mpr λ c hc e=>U6 hk ((eq_of_beq e).symm.trans (hm.mem c hc).1),C9]
   ·refine⟨m,hm,?_⟩
    rw[(R3 (l:=l')).mpr λ c hc e=>U6 (h1 c hc).1 (eq_of_beq e),(fC (l:=m)).mpr λ c hc=>jM.mpr (hm.mem c hc).1]
    rfl
def pick(k t:Nat)(c:Cf):Bool:=decide ((c.s:Int)=k)&&decide ((c.t:Int)=t)
def gR(l:List Cf)(k t:Nat):List Nat:=((l.filter (pick k t)).flatMap PQ).foldl ad []
theorem zB(a b:Nat):decide ((a:Int)=b)=(a==b):=by
 rw[fZ,P8,jM];exact Int.ofNat_inj
theorem JP(l:List Cf)(k t:Nat):gR l k t=lst (l.filter λ c=>c.s==k) t:=by
 unfold gR lst
 rw[List.filter_filter]
 refine C7 (λ p=>((List.filter p l).flatMap PQ).foldl ad []) (funext λ c=>?_)
 unfold pick
 rw[zB,zB,Bool.and_comm]
theorem CS.NB{G:Gr}{K:Nat}{l:List Cf}(h:CS G K l){k:Nat}(hk:k<K)(t:Nat):Nk G (gR l k t):=by
 refine A0 ((h.st (k:=k)).2 hk) λ m hZ=>?_;delta hZ h1 h2
 rw[JP,h2]
 exact((CG.lst (f:=Prod.mk) (λ _ _ _ _ _ _ e=>⟨(qF e).1,(qF e).2⟩) (D7 _) h1).2 t).1
theorem Nk.dU{G:Gr}{L:List Nat}(h:Nk G L):dU L=L:=(GB (.refl _) (h.as.imp M8)).symm
theorem Nk.len{G:Gr}{L:List Nat}(h:Nk G L)(w:G.Wf):L.length<=6:=A9 (Y3 (h.as.imp U6) λ r hr=>(h.lt r hr).2) w.rules
section
variable{W:Wd}(P:dR W){n:Nat}{σ:PH}{T:Addr}{A:Au}{G:Gr}{K k:Nat}{D:fP}{Q:PV->PH->Prop}(w:G.Wf)(hT:wJ σ T A G K D)
include P w hT
theorem Mn(hK:K<=32768)(hk:k<K){t:Nat}(q:∀c B9,Ext σ B9->σ c=none->B9 c=some (.list ((gR (D.cl.map (·.2)) k t).map C0))->Q (.ref c) B9):J9 W (n+1) (.ref 834) [.ref T,C0 k,C0 t] σ Q:=by
 have bd:=(hT.p.cs.st (k:=k)).1
 have zl:∀l:List (Addr×Cf),(∀p∈l,p∈D.cl)->∀r∈gR (l.map (·.2)) k t,r<G.rules.length:=λ l hl r hr=>by
  refine A0 (P6.mp ((pZ.mp hr).resolve_left eQ)) λ c hZ=>?_;delta hZ hc hr
  refine A0 (D2.mp (J5.mp hc).1) λ p hZ=>?_;generalize hZ.1=hp;clear hc;obtain rfl:=hZ.2;try clear hZ
  exact((bd p.2 (J2 (hl p hp))).3.lt r (J5.mp hr).1).2
 refine P.fn tJ 63 rfl (ρ:=[.ref T,C0 k,C0 t,.M7,.M7,.M7]) rfl (K1 (K7 (Led.start σ) rfl λ c3 aL L0=>?_))
 let F:(Nat->PV)->List PV:=λ v=>[.ref T,C0 k,C0 t,.ref c3,v 4,v 5]
 have zc:D.cl.length<=2^24:=by have:=hT.p.c1;lia
 refine eZ F (l:=D.cl) (f:=λ p=>.ref p.1) (v:=.ref A.cl) (λ pre _ B9=>Led σ B9 [(c3,.list ((gR (pre.map (·.2)) k t).map C0))] []) rfl (D8 rfl ((hT.ob.ext L0.ext).fld _)) (V6 (L0.ext _ _ hT.cl) (by rw[A8];exact zc)) L0 ?_ λ u B9 L=>?_
 ·intro pre p post u W9 R hl L hR
  have hp:p∈D.cl:=hl▸G4 _ (.head _)
  have vU:∀x∈pre,x∈D.cl:=λ x hx=>hl▸H0 _ hx
  refine A0 (hT.p.c2 p hp) λ _ O=>?_
  have hZ:=bd p.2 (J2 hp);delta hZ hZ hZ hb
  have e1:gR ((pre++[p]).map (·.2)) k t=if pick k t p.2=true then(PQ p.2).foldl ad (gR (pre.map (·.2)) k t)else gR (pre.map (·.2)) k t:=by
   unfold gR
   rw[C1,G7,Q7,K9]
   by_cases c:pick k t p.2=true
   ·rw[F7 c,show List.filter (pick k t) (List.map (·.2) [p])=[p.2]from J3 c,Q2]
   ·rw[G0 c,show List.filter (pick k t) (List.map (·.2) [p])=[]from J4 c];rfl
  rw[e1]at hR
  have st:∀{B9},Ext σ B9->M9 aL (.ref A.cl) B9:=λ E=>(E _ _ hT.cl).trans (L0.ext _ _ hT.cl).symm
  have nd:(gR (pre.map (·.2)) k t).Nodup:=OJ .nil
  have lt:=zl pre vU
  generalize gR (pre.map (·.2)) k t=acc at L hR nd lt
  refine dA (t:=pick k t p.2) (jQ (N3 (D8 rfl ((O.ext L.ext).fld _)) rfl rfl) (N3 (D8 rfl ((O.ext L.ext).fld _)) rfl rfl)) (λ c=>?_) λ c=>O7 (s_end (hR .next _ _ trivial (st L.ext) (by rw[G0 (by rw[c];exact C5)];exact L) rfl))
  rw[F7 c]at hR
  refine eZ (λ v=>[.ref T,C0 k,C0 t,.ref c3,.ref p.1,v 5]) (l:=p.2.rs) (f:=C0) (λ p2 _ B9=>Led σ B9 [(c3,.list (((p2.filter (vM p.2.ch)).foldl ad acc).map C0))] []) rfl (D8 rfl ((O.ext L.ext).fld _)) (rO (by rw[A8];exact A9 hb.z (by decide))) L ?_ λ u B9 L=>O7 (s_end (hR .next _ _ trivial (st L.ext) L rfl))
  intro p2 r iI u2 Y9 R2 fN L bS
  have hZ:=P5 fN;delta hZ hZ hr
  have nd:=OJ (l:=p2.filter (vM p.2.ch)) nd
  have lt:∀x∈(p2.filter (vM p.2.ch)).foldl ad acc,x<G.rules.length:=λ x hx=>(pZ.mp hx).elim (lt x) λ h=>(hb.lt x (fN▸H0 _ (J5.mp h).1)).2
  rw[G7,K9]at bS
  generalize (p2.filter (vM p.2.ch)).foldl ad acc=acc at L bS nd lt
  refine dA (t:=vM p.2.ch r&&!decide (r∈acc)) (jQ (N3 (D8 rfl ((O.ext L.ext).fld _)) (xD rfl) rfl) (oU rfl rfl (in_list (L.get 0 rfl)))) (λ c=>?_) λ c=>O7 (s_end (bS .next _ _ trivial trivial ?_ rfl))
  ·have hZ:=F0.mp c;delta hZ c1 c2
   rw[show[r].filter (vM p.2.ch)=[r]from J3 c1,J0,CL (by simpa using c2)]at bS
   refine N4 (aH 0 (x:=C0 r) L rfl rfl rfl (GW (Y3 nd lt) (A9 w.rules (by decide))) λ B9 _ L'=>O7 (s_end (bS .next _ _ trivial trivial ?_ rfl)))
   show Led σ B9 [(c3,.list (List.map C0 (acc++[r])))] _
   rw[C1];exact L'
  ·by_cases c1:vM p.2.ch r=true
   ·rw[c1]at c
    rw[show[r].filter (vM p.2.ch)=[r]from J3 c1,J0,CK (by simpa using c)];exact L
   ·rw[show[r].filter (vM p.2.ch)=[]from J4 c1];exact L
 ·have ls:=hT.p.cs.NB hk t
  exact W3 (H7 (p1 rfl) (dE (L.get 0 rfl) (H8 (ls.len w) (by decide)) λ c5 EX=>q c5 _ (L.ext.trans (Ext.new EX _)) (L.ext.none EX) (by rw[ls.dU];exact PH.J7 ..)))
end
abbrev wO(p:Str×Str):PV:=.tup [.str p.1,.str p.2]
def LD(G:Gr)(D:fP)(k t:Nat):List (Str×Str):=if D.jY k t>0 then[(aP G t,bT G (D.jY k t))]else[]
def PX(G:Gr)(D:fP)(k t:Nat):List (Str×Str):=if D.jY k t<0 then[(aP G t,bT G (D.jY k t))]else[]
def Ki(G:Gr)(D:fP)(k t:Nat):List (Str×Str):=(gR (D.cl.map (·.2)) k t).map λ r:Nat=>(aP G t,oS "["++bT G (-(r:Int))++oS "]")
def Bn(G:Gr)(D:fP)(k:Nat):List (Str×Str):=if D.df k=0 then[]else[(oS "$default",bT G (-(D.df k:Int)))]
def CV(G:Gr)(D:fP)(k t:Nat):List (Str×Str):=PX G D k t++Ki G D k t
def U9(G:Gr)(D:fP)(k:Nat):List (Str×Str):=(List.range G.tc).flatMap (LD G D k)++((List.range G.tc).flatMap (CV G D k)++Bn G D k)
theorem Oz{W:Wd}{n:Nat}{σ:PH}{ρ:List PV}{e:PE}{Q:PV->PH->Prop}(h:(wp W tb n e).v ρ σ λ x B9=>match x with|.int i=>Q (.int (-i)) B9|_=>False):(wp W tb n (.neg e)).v ρ σ Q:=h
theorem Q5{α β:Type}(f:α->β)(l:List α)(x:α):(l++[x]).map f=l.map f++[f x]:=C1
theorem VE{α β:Type}{f:α->List β}{c:Nat}(h:∀x,(f x).length<=c):∀l:List α,(l.flatMap f).length<=c*l.length
 |[]=>K3 _
 |x::l=>by rw[Z7,B0,H5,Nat.mul_succ,aF];exact S0 (VE h l) (h x)
theorem Cell.neg{R i:Nat}(h:i<R):Cell R (-(i:Int)):=.inr ⟨Int.neg_lt_neg (T7.mpr h),by lia⟩
section
variable{W:Wd}(P:dR W){n:Nat}{σ:PH}{T:Addr}{A:Au}{G:Gr}{K k:Nat}{D:fP}{Q:PV->PH->Prop}(w:G.Wf)(sh:Short G)(hT:wJ σ T A G K D)
include P w sh hT
theorem Mm(hK:K<=32768)(hk:k<K)(q:∀c B9,Ext σ B9->σ c=none->B9 c=some (.list ((U9 G D k).map wO))->(U9 G D k).length<=64->Q (.ref c) B9):J9 W (n+2) (.ref 827) [.ref T,C0 k] σ Q:=by
 have zt:=w.t5
 have z1:∀t,(LD G D k t).length<=1:=λ t=>by unfold LD;split;exact D7 _;exact K3 _
 have z2:∀t,(PX G D k t).length<=1:=λ t=>by unfold PX;split;exact D7 _;exact K3 _
 have z3:∀t,(Ki G D k t).length<=6:=λ t=>by unfold Ki;rw[A8];exact(hT.p.cs.NB hk t).len w
 have z4:∀t,(CV G D k t).length<=7:=λ t=>by unfold CV;rw[B0];exact(S0 (z2 t) (z3 t):_<=1+6)
 refine P.fn qP 62 rfl (ρ:=[.ref T,C0 k,.M7,.M7,.M7,.M7,.M7,.M7,.M7]) rfl (K1 (K7 (Led.start σ) rfl λ c2 aL L=>K1 (K7 L rfl λ c3 W9 L=>K1 (K7 L rfl λ c4 Y9 L=>?_))))
 let LL:List (Str×Str)->List (Str×Str)->List (Addr×PO):=λ a b=>[(c2,.list (a.map wO)),(c3,.list []),(c4,.list (b.map wO))]
 refine Z2 (H7 (p1 (D8 rfl ((hT.ob.ext L.ext).fld _))) (aQ (Z1 (λ v=>[.ref T,C0 k,.ref c2,.ref c3,.ref c4,v 5,v 6,v 7,v 8]) (λ pre _ B9=>∃τ,Ext σ τ∧Led τ B9 (LL (pre.flatMap (LD G D k)) (pre.flatMap (CV G D k))) []) rfl (fJ (A9 zt (by decide))) ⟨σ,.refl _,L⟩ ?_ λ u B9 Uz=>?_)))
 ·intro pre t post u bM R hl hQ;intros hQ τ hZ;delta hZ E L1;intro hR
  have hZ:=P9 hl;delta hZ hp ht
  have y1:=VE z1 pre
  have y2:=VE z4 pre
  have y3:pre.length<=5:=by rw[hp,D9];exact A9 (M8 ht) zt
  rw[Q7,Q7,Q2,Q2]at hR
  generalize pre.flatMap (LD G D k)=a at L1 hR y1
  generalize pre.flatMap (CV G D k)=b at L1 hR y2
  clear L
  have XW:=hT.ext (E.trans L1.ext)
  have cell:=hT.p.cell hk ht
  have cz:=cell.sz w.rules
  refine K1 (J1 rfl (XW.ob.H2 "explicit" rfl rfl) (I9 rfl (p1 rfl)) (NZ P XW hk ht (K1 (dM (F9 (P2 (I8 (D8 rfl (XW.ob.fld _)) rfl (W8 sD XW.nm (D1 ht w.tc))) (F9 (H7 (I9 rfl (p1 rfl)) (ZW P w sh XW cell (M0 ?_))))))))))
  refine oT (λ O5 B9=>O5=[.ref T,C0 k,.ref c2,.ref c3,.ref c4,C0 t,.int (D.jY k t),.tup [.str (aP G t),.str (bT G (D.jY k t))],u 8]∧Led τ B9 (LL (a++LD G D k t) (b++PX G D k t)) []) ?_ λ R1 yF=>uT (N3 rfl rfl rfl) ⟨λ h=>absurd (D0 h:D.jY k t= -1048576) (by lia),λ _=>dA (t:=decide (D.jY k t>0)) (N3 rfl rfl rfl) (λ h=>?_) λ h=>dA (t:=decide (D.jY k t<0)) (N3 rfl rfl rfl) (λ h'=>?_) λ h'=>O7 (O7 (s_end (yF _ _ ⟨rfl,?_⟩)))⟩
  ·intro _ cI hQ;obtain rfl:=hQ.1;delta hQ hQ L2
   refine Z2 (H7 (I9 rfl (I9 rfl (p1 rfl))) (Mn (n:=n) P w (hT.ext (E.trans L2.ext)) hK hk λ cl eM E6 TM hl=>?_))
   refine Led.keep (L:=LL (a++LD G D k t) (b++PX G D k t)) (L2.adopt E6 TM hl) λ IF E1 L3 gB=>?_
   have TM:=gB _ (.head _)
   have zl:(b++PX G D k t).length<=36:=by rw[B0];have:=z2 t;lia
   have ls:=hT.p.cs.NB hk t
   refine Z1 (λ v=>[.ref T,C0 k,.ref c2,.ref c3,.ref c4,C0 t,.int (D.jY k t),.tup [.str (aP G t),.str (bT G (D.jY k t))],v 8]) (f:=C0) (λ p2 _ B9=>Led IF B9 (LL (a++LD G D k t) (b++PX G D k t++p2.map λ r:Nat=>(aP G t,oS "["++bT G (-(r:Int))++oS "]"))) []) rfl (qT (L3.ext _ _ TM) (ls.len w) rfl) (by rw[nO,C9];exact L3) ?_ λ u B9 L=>s_end (hR .next _ _ trivial trivial ⟨IF,E.trans E1,by unfold CV;rw[<-C6];exact L⟩ rfl)
   intro p2 r iI u2 eX R2 fN L4 bS
   have hZ:=P5 fN;delta hZ hz hr
   have hr:=(ls.lt r hr).2
   have Xi:=hT.ext ((E.trans E1).trans L4.ext)
   have hz:=D1 hz (ls.len w)
   have s1:=uL w sh (Cell.neg hr)
   rw[C1,<-C6]at bS
   refine N4 (T0 rfl (N9 (L4.get 2 rfl) _) (F9 (dM (F9 (P2 (I8 (D8 rfl (Xi.ob.fld _)) rfl (W8 sD Xi.nm (D1 ht w.tc))) (F9 (O6 (O6 (P2 rfl (H7 (I9 rfl (p1 (xD rfl))) (ZW P w sh Xi (Cell.neg hr) (w_add (.lit rfl:Sz 2 _) s1 rfl (P2 rfl (w_add ((.lit rfl:Sz 2 (oS "[")).app s1) (.lit rfl:Sz 2 _) rfl (M0 (M0 (aX 2 L4 rfl ?_ λ qC _ L5=>s_end (bS .next _ _ trivial ((L5.ext _ _ TM).trans (L3.ext _ _ TM).symm) ?_ rfl))))))))))))))))))
   ·rw[A8,B0,A8];lia
   ·show Led IF qC [_,_,(c4,.list (List.map wO (_++[_])))] _
    rw[Q5];exact L5
  ·refine N4 (aH 0 (x:=.tup [.str (aP G t),.str (bT G (D.jY k t))]) L1 rfl rfl rfl (by rw[A8];lia) λ cI _ L2=>O7 (s_end (yF _ _ ⟨rfl,?_⟩)))
   unfold LD PX
   rw[F7 (D0 h),G0 (Int.lt_asymm (D0 h)),C9]
   show Led τ cI [(c2,.list (List.map wO (_++[_]))),_,_] _
   rw[Q5];exact L2
  ·refine N4 (aH 2 (x:=.tup [.str (aP G t),.str (bT G (D.jY k t))]) L1 rfl rfl rfl (by rw[A8];lia) λ cI _ L2=>O7 (O7 (s_end (yF _ _ ⟨rfl,?_⟩))))
   unfold LD PX
   rw[G0 (K6 h),F7 (D0 h'),C9]
   show Led τ cI [_,_,(c4,.list (List.map wO (_++[_])))] _
   rw[Q5];exact L2
  ·unfold LD PX
   rw[G0 (K6 h),G0 (K6 h'),C9,C9];exact L1
 ·intros Uz τ hZ;delta hZ E L
  have y1:=VE z1 (List.range G.tc)
  have y2:=VE z4 (List.range G.tc)
  rw[D9]at y1 y2
  have hl:(U9 G D k).length<=64:=by
   unfold U9
   rw[B0,B0]
   have:(Bn G D k).length<=1:=by unfold Bn;split;exact K3 _;exact D7 _
   lia
  unfold U9 at q hl
  generalize (List.range G.tc).flatMap (LD G D k)=a at L q y1 hl
  generalize (List.range G.tc).flatMap (CV G D k)=b at L q y2 hl
  have XW:=hT.ext (E.trans L.ext)
  refine oT (λ O5 B9=>O5=[.ref T,C0 k,.ref c2,.ref c3,.ref c4,u 5,u 6,u 7,u 8]∧Led τ B9 (LL a (b++Bn G D k)) []) ?_ λ R1 yF=>iD (J1 rfl (XW.ob.H2 "default" rfl rfl) (p1 rfl) (HN P XW hk (P2 rfl ⟨_,rfl,λ h=>?_,λ h=>s_end (yF _ _ ⟨rfl,?_⟩)⟩)))
  ·intro _ cI hQ;obtain rfl:=hQ.1;delta hQ hQ L2
   rw[B0,B0]at hl
   refine W3 (O6 (O6 (P2 rfl (P2 rfl (gH L2 (L2.get 0 rfl) (L2.get 1 rfl) (by rw[A8];exact A9 (A9 (J6 a.length _) hl) (by decide)) λ c6 eM L3=>P2 rfl (gH L3 (L3.get 3 rfl) (L3.get 2 rfl) (by rw[C9,A8,A8,B0];exact A9 hl (by decide)) λ c7 eX L4=>q c7 eX (E.trans L4.ext) (E.none (L4.new _ (.tail _ (.tail _ (.tail _ (.tail _ (.head _))))))) ?_ (by rw[B0,B0];exact hl)))))))
   rw[C1,L4.get 4 rfl,C9]
  ·have h0:D.df k≠0:=λ e=>by rw[e]at h;cases h
   have hd:=hT.p.Yb hk
   refine N4 (T0 rfl (N9 (L.get 2 rfl) _) (F9 (dM (F9 (P2 rfl (F9 (T5 (F9 (P2 rfl (F9 (Oz (J1 rfl (XW.ob.H2 "default" rfl rfl) (p1 rfl) (HN P XW hk (M0 (ZW P w sh XW (Cell.neg hd) (M0 (M0 (aX 2 L rfl (by rw[A8];lia) λ cI _ L2=>s_end (yF _ _ ⟨rfl,?_⟩)))))))))))))))))))
   unfold Bn
   rw[G0 h0]
   show Led τ cI [_,_,(c4,.list (List.map wO (_++[_])))] _
   rw[Q5];exact L2
  ·have h0:D.df k=0:=by
    have:(!decide ((D.df k:Int)=0))=false:=h
    simpa using this
   unfold Bn
   rw[F7 h0,C9];exact L
end
def Ge(k:Nat):Str:=⟨Array.replicate k 32⟩
theorem Str.ext2{a b:Str}(h:a.cps.toList=b.cps.toList):a=b:=by
 cases a;cases b;exact C7 _ (Array.toList_inj.mp h)
theorem BG(x:Str)(i:Int):Txt.ljust x i=x++Ge (i.toNat - x.length):=by
 unfold Txt.ljust
 split
 ·rename_i h
  rw[show i.toNat - x.length=0 from jD (Int.toNat_le.mpr h)]
  exact Str.ext2 (by rw[Str.cps_append,Array.toList_append];exact(C9 _).symm)
 ·refine Str.ext2 ?_
  rw[padded_list,Str.cps_append,Array.toList_append]
  show[]++_++_=_++(Array.replicate _ 32).toList
  rw[Array.toList_replicate];rfl
theorem Sz.ljust{x:Str}{k:Nat}(h:Sz k x){i:Int}(hi:i<=k):Sz k (Txt.ljust x i):=by
 rw[BG]
 unfold Sz at*
 rw[R7]
 show x.length+(Array.replicate _ 32).size<=k
 rw[Array.size_replicate]
 rcases Nat.le_total x.length i.toNat with e|e
 ·rw[Nat.add_sub_cancel' e];exact Int.toNat_le.mpr hi
 ·rw[jD e];exact h
def lQ(l:List (Str×Str)):Int:=l.foldl (λ m p=>if(p.1.length:Int)>m then(p.1.length:Int)else m) 0
def IU(w:Int)(p:Str×Str):Str:=oS "    "++Txt.ljust p.1 w++oS "  "++p.2
def Z0(l:List (Str×Str)):List Str:=l.map (IU (lQ l))
def Oe(l:List (Str×Str)):Prop:=l.length<=64∧∀p∈l,Sz 10 p.1∧Sz 40000 p.2
theorem Bt{l:List (Str×Str)}(h:∀p∈l,Sz 10 p.1):And (0<=lQ l) (lQ l<=10):=by
 unfold lQ
 have:∀{l:List (Str×Str)} {m:Int},(∀p∈l,Sz 10 p.1)->0<=m∧m<=10->0<=l.foldl (λ m p=>if(p.1.length:Int)>m then(p.1.length:Int)else m) m∧l.foldl (λ m p=>if(p.1.length:Int)>m then(p.1.length:Int)else m) m<=10:=λ{l}=>by
  induction l with
  |nil=>exact λ _ h=>h
  |cons p l ih=>
   intro m hl hm
   refine ih (λ x hx=>hl x (.tail _ hx)) ?_
   have:=hl p (.head _)
   unfold Sz at this
   dsimp only
   have:=hm.1;have:=hm.2
   split<;>exact⟨by lia,by lia⟩
 exact⟨(this h ⟨Int.le_refl _,by decide⟩).1,(this h ⟨Int.le_refl _,by decide⟩).2⟩
section
variable{W:Wd}(P:dR W){n:Nat}{σ:PH}{Q:PV->PH->Prop}
include P
theorem RR{a:Addr}{l:List (Str×Str)}(ha:σ a=some (.list (l.map wO)))(hl:Oe l)(q:∀c B9,Ext σ B9->σ c=none->B9 c=some (.list ((Z0 l).map .str))->Q (.ref c) B9):J9 W (n+1) (.ref 839) [.ref a] σ Q:=by
 refine P.fn wT 64 rfl (ρ:=[.ref a,.M7,.M7,.M7]) rfl (P3 rfl ?_)
 have it:mF σ (.ref a) (l.map λ p=>.tup [.str p.1,.str p.2]):=V6 ha (by rw[A8];exact A9 hl.1 (by decide))
 refine XZ (λ v=>[.ref a,v 1,v 2,v 3]) (l:=l) (f:=λ p=>[.str p.1,.str p.2]) (λ pre v B9=>v 1=.int (lQ pre)∧B9=σ) rfl rfl it (λ _ _=>rfl) ⟨rfl,rfl⟩ ?_ ?_
 ·intro pre p post u _ R fN hQ;generalize hQ.1=h1;clear P ha fN post;clear q it;obtain rfl:=hQ.2;try clear hQ;intro hR
  refine K1 (H7 (I9 (rI h1 rfl) (p1 (V8 rfl rfl))) (Iq (s_end (hR .next _ _ trivial rfl ⟨?_,rfl⟩ rfl))))
  show PV.int _=.int (lQ (pre++[p]))
  unfold lQ
  rw[K9];rfl
 ·intro u aL hQ;generalize hQ.1=h1;clear P ha;obtain rfl:=hQ.2;try clear hQ
  have hZ:=Bt λ p hp=>(hl.2 p hp).1;delta hZ w0 w1
  refine W3 (gT (Led.start aL) rfl it (λ _ _=>rfl) (g:=λ p=>.str (IU (lQ l) p)) (λ p hp R hR=>?_) λ c W9 E L=>?_)
  ·have hZ:=hl.2 p hp;delta hZ z1 z2
   have z3:=z1.ljust w1
   have s1:=(.lit rfl:Sz 4 (oS "    ")).app z3
   exact O6 (O6 (O6 (P2 rfl (J1 rfl (dO rfl) (p1 (rI h1 rfl)) (Cb w0 (Int.le_trans w1 (by decide)) (hz:=A9 z3 (by decide)) (w_add (.lit rfl:Sz 4 _) z3 rfl (P2 rfl (w_add s1 (.lit rfl:Sz 2 _) rfl (P2 rfl (w_add (s1.app (.lit rfl:Sz 2 (oS "  "))) z2 rfl hR))))))))))
  ·exact q c W9 E (L.new _ (.head _)) ((L.get 0 rfl).trans (by unfold Z0;rw[G2];rfl))
theorem UE{T:Addr}{A:Au}{G:Gr}{K k:Nat}{D:fP}(hT:wJ σ T A G K D)(q:∀c B9,Ext σ B9->σ c=none->B9 c=some (.list [])->Q (.ref c) B9):J9 W (n+1) (.ref 846) [.ref T,C0 k] σ Q:=by
 refine P.fn oH 65 rfl (ρ:=[.ref T,C0 k,.M7,.M7,.M7,.M7]) rfl (K1 (K7 (Led.start σ) rfl λ c aL L=>?_))
 exact eZ (λ v=>[.ref T,C0 k,.ref c,v 3,v 4,v 5]) (l:=([]:List Nat)) (f:=C0) (v:=.ref A.sl) (λ _ _ B9=>B9=aL) rfl (D8 rfl ((hT.ob.ext L.ext).fld _)) (V6 (L.ext _ _ hT.sl) (K3 _)) rfl (λ pre x post u B9 R h=>by cases pre<;>cases h) λ u B9 e=>X8 rfl (e▸q c aL L.ext (L.new _ (.head _)) (L.get 0 rfl))
end
def Bb(G:Gr)(i d:Nat):List Str:=((G.rules.getD i oF).right.map (aP G)).take d++oS "."::((G.rules.getD i oF).right.map (aP G)).drop d
def uZ(G:Gr)(i d:Nat):Str:=aP G (G.rules.getD i oF).left++oS " : "++Str.join (oS " ") (Bb G i d)
def NH(G:Gr)(m:Nat):Str:=Z4 (G.S6 m)++oS " "++uZ G (G.S6 m) (G.rU m)
def EQ(ms:List (PK×PV))(i r:Nat):Nat:=iL 0 Int.toNat ((ms.lookup (k2 i r)).getD .none)
def Kk(G:Gr)(z:Nat):Str:=Str.join (oS ", ") ((X7 z G.tc).map (aP G))
def full(G:Gr)(m:Nat):Bool:=decide (G.S6 m≠0)&&(G.cM m).isNone
def zP(G:Gr)(ms:List (PK×PV))(k m:Nat):Str:=if full G m=true then NH G m++oS "  ["++Kk G (EQ ms k (G.S6 m))++oS "]" else NH G m
theorem Gr.tF{G:Gr}(w:G.Wf){i:Nat}(hi:i<G.rules.length):G.rules[i]? =some (G.rules.getD i oF):=W5 oF hi
theorem LM{G:Gr}(w:G.Wf)(sh:Short G){i d:Nat}(hi:i<G.rules.length):(Bb G i d).length<=4∧∀y∈Bb G i d,Sz 10 y:=by
 have z:=w.len _ (B5 (Gr.tF w hi))
 unfold Bb
 generalize (G.rules.getD i oF).right=l at z ⊢
 refine⟨?_,λ y hy=>?_⟩
 ·rw[B0,H5,Y2,U7,A8,XD];exact O1 z
 ·have h:∀y∈l.map (aP G),Sz 10 y:=λ y hy=>by refine A0 (D2.mp hy) λ s hZ=>?_;clear hy;obtain rfl:=hZ.2;try clear hZ;exact sh.nm s
  rcases G9.mp hy with hy|hy
  ·exact h y (List.mem_of_mem_take hy)
  ·rcases F8.mp hy with rfl|hy
   ·exact .lit rfl
   ·exact h y (kJ hy)
theorem EB{G:Gr}(w:G.Wf)(sh:Short G){i d:Nat}(hi:i<G.rules.length):Sz 57 (uZ G i d):=by
 have hZ:=LM (d:=d) w sh hi;delta hZ h1 h2
 exact((sh.nm _).app (.lit rfl:Sz 3 _)).app (A9 (StrLaws.join_length_le _ _) (Sz.join (.lit rfl:Sz 1 _) h2 h1))
theorem tE{G:Gr}{m:Nat}(h:m<G.aS.length):G.S6 m<G.rules.length:=(D3.mp (Gr.it h).rule).1
theorem GZ{G:Gr}(w:G.Wf)(sh:Short G){m:Nat}(h:m<G.aS.length):Sz 40000 (NH G m):=
 ((((Sz.Z4 (G6 _) (by have:=tE h;have:=w.rules;lia)).app (.lit rfl:Sz 1 _)).app (EB w sh (tE h)))).mono (C3 rfl)
section
variable{W:Wd}(P:dR W){n:Nat}{σ:PH}{g:Addr}{G:Gr}{Q:PV->PH->Prop}(w:G.Wf)(sh:Short G)(hG:qA σ g G)
include P w sh hG
theorem Fj{i d:Nat}(hi:i<G.rules.length)(hd:d<=(G.rules.getD i oF).right.length)(q:∀B9,Ext σ B9->Q (.str (uZ G i d)) B9):J9 W (n+1) (.ref 191) [.ref g,C0 i,C0 d] σ Q:=by
 refine A0 (hG.names) λ na hZ=>?_;delta hZ n1 n2
 have hr:=Gr.tF w hi
 refine ee3.e (hG.rule hr) λ ra rs b hZ=>?_;delta hZ r1 r2 r3 r4
 have hZ:=LM (d:=d) w sh hi;delta hZ z1 z2
 have z:=w.len _ (B5 hr)
 have ru:=B5 hr
 unfold uZ Bb at*
 generalize G.rules.getD i oF=r at*
 refine P.fn wR 10 rfl (ρ:=[.ref g,C0 i,C0 d,.M7,.M7]) rfl (P3 (I8 (D8 rfl r1) rfl (I0 r2 r3)) (K1 (gT (Led.start σ) (D8 rfl r4.right) (rO (by rw[A8];exact A9 z (by decide))) (λ _ _=>rfl) (g:=λ s=>.str (aP G s)) (λ s hs R hR=>P2 (I8 (D8 rfl n1) rfl (W8 sD n2 (w.sym _ ru s hs))) hR) λ c aL E L=>?_)))
 refine dA (t:=true) (N3 rfl rfl (C7 some (H3 (G6 d)))) (λ _=>N4 (J1 rfl (N9 (L.get 0 rfl) _) (I9 rfl (p1 rfl)) (XG (L.get 0 rfl) (G6 d) (by rw[A8];exact hd) (by rw[A8];exact A9 z (by decide)) ?_))) λ h=>nomatch h
 have L:=L.set 0 rfl (.list (((r.right.map λ s=>PV.str (aP G s)).take d++PV.str (oS ".")::(r.right.map λ s=>PV.str (aP G s)).drop d)))
 generalize Kx:aL.set c _=W9
 rw[show aL.set c (.list (((r.right.map λ s=>PV.str (aP G s)).take d++PV.str (oS ".")::(r.right.map λ s=>PV.str (aP G s)).drop d)))=W9 from Kx]at L
 have hc:W9 c=some (.list (((r.right.map (aP G)).take d++oS "."::(r.right.map (aP G)).drop d).map .str)):=(L.get 0 rfl).trans (by rw[C1,I6,List.map_take,List.map_drop,G2];rfl)
 exact O7 (W3 (O6 (O6 (P2 (I8 (D8 rfl (U8 L.ext n1)) (D8 rfl (r4.ext L.ext).left) (W8 sD (L.ext _ _ n2) (w.left _ ru))) (P2 rfl (w_add (sh.nm _) (.lit rfl:Sz 3 _) rfl (J1 rfl (dO rfl) (p1 rfl) (HS hc (.lit rfl:Sz 1 _) z2 z1 rfl λ z3=>w_add ((sh.nm _).app (.lit rfl:Sz 3 (oS " : "))) z3 rfl (q _ L.ext)))))))))
end
section
variable{W:Wd}{n:Nat}{σ:PH}{ρ:List PV}{c:PE}
theorem lL{α:Type}{l:List α}{f g:α->PV}{p:α->Bool}{v:PV}{K:List PV->PH->Prop}{turn:PV->PH->(Option PV->PH->Prop)->Prop}(hv:mF σ v (l.map f))(Hv:∀B9,Ext σ B9->M9 σ v B9)
  (hs:∀x∈l,∀B9,Ext σ B9->∀R:Option PV->PH->Prop,(p x=true->∀S7,Ext B9 S7->R (some (g x)) S7)->(p x=false->∀S7,Ext B9 S7->R none S7)->turn (f x) B9 R)
  (k:∀B9,Ext σ B9->K ((l.filter p).map g) B9):∃xs,mF σ v xs∧pE (M9 σ v) turn xs [] σ K:=by
 refine⟨_,hv,comp_map (λ pre acc B9=>Ext σ B9∧acc=(pre.filter p).map g) ⟨.refl _,rfl⟩ (λ pre x post acc B9 R hl Uy hR=>?_) λ acc B9 ⟨h1,h2⟩=>h2▸k B9 h1⟩
 delta Uy h1 h2
 refine hs x (P5 hl).2 B9 h1 _ (λ e S7 h3=>hR (some (g x)) _ (Hv _ (h1.trans h3)) ⟨h1.trans h3,?_⟩) λ e S7 h3=>hR none _ (Hv _ (h1.trans h3)) ⟨h1.trans h3,?_⟩
 ·rw[G7,W1,e,C1,h2];rfl
 ·rw[G7,W1,e];exact h2.trans (C7 (List.map g) (C9 _).symm)
theorem jH{elt e:PE}{tg:Nat}{Q:PV->PH->Prop}(h:(wp W tb n e).v ρ σ λ iv B4=>∃xs,mF B4 iv xs∧pE (M9 B4 iv) (λ x σ R=>∃ys,eI tg x=some ys∧(wp W tb n c).t (ρ++ys) σ λ b B9=>match b with
   |true=>(wp W tb n elt).v (ρ++ys) B9 λ y S7=>R (some y) S7
   |false=>R .none B9) xs [] B4 λ ys H6=>∀c,H6 c=none->Q (.ref c) (H6.set c (.list ys))):(wp W tb n (.comp elt tg e c)).v ρ σ Q:=h
theorem iE{a:Addr}{o:PO}(h:σ a=some o):∀B9,Ext σ B9->M9 σ (.ref a) B9:=λ B9 E=>(E _ _ h).trans h.symm
end
theorem XC{G:Gr}{S:List St}{ms:List (PK×PV)}(M:MI G S ms){i r:Nat}(hi:i<S.length)(h:r∈(S.getD i aB).iX):EQ ms i r<2^G.tc∧ms.lookup (k2 i r)=some (C0 (EQ ms i r)):=by
 refine A0 (M.ix i r hi h) λ k hZ=>?_;delta hZ hk e
 have:EQ ms i r=k:=by unfold EQ;rw[e];rfl
 rw[this];exact⟨hk,e⟩
theorem Ao{G:Gr}{m:Nat}:full G m=(!decide ((G.S6 m:Int)=0)&&!decide (OH (G.PT m) (G.rU m)>=0)):=by
 unfold full OH
 show _=(_&&!decide ((match G.cM m with|some s=>(s:Int)|none=> -1)>=0))
 congr 1
 ·rw[decide_not,fZ];simp
 ·cases G.cM m with
  |none=>rfl
  |some s=>exact(C7 not (H3 (G6 s))).symm
theorem JT{G:Gr}{S:List St}(au:yL G S){s:St}(hs:s∈S){m:Nat}(hm:m∈s.items)(h:full G m=true):G.S6 m∈s.iX:=by
 have hZ:=F0.mp h;delta hZ h1 h2
 have it:=Gr.it (au.lt hs m hm)
 have:=eV.mp (it.OH.symm.trans (eU.mp h2))
 have e:G.rU m=(G.PT m).right.length:=Nat.le_antisymm it.dot this
 exact au.red hs it.rule (D0 h1) (by rw[<-e,<-it.at_];exact hm)
theorem GX{G:Gr}(w:G.Wf)(sh:Short G){z:Nat}:((X7 z G.tc).map (aP G)).length<=5∧∀y∈(X7 z G.tc).map (aP G),Sz 10 y:=by
 refine⟨?_,λ y hy=>by refine A0 (D2.mp hy) λ s hZ=>?_;clear hy;obtain rfl:=hZ.2;try clear hZ;exact sh.nm s⟩
 rw[A8]
 exact A9 (H4 ..) (by rw[D9];exact w.t5)
theorem Gf{z N k:Nat}(h:k∈X7 z N):k<N:=N1.mp (J5.mp h).1
section
variable{W:Wd}(P:dR W){n:Nat}{σ:PH}{V g:Addr}{B:Oc}{G:Gr}{S:List St}{Q:PV->PH->Prop}(w:G.Wf)(sh:Short G)(hG:qA σ g G)(hV:Iu σ V g B G S)(au:yL G S)
include P w hV au
theorem UI{k:Nat}(hk:k<S.length)(q:∀c B9,Ext σ B9->σ c=none->B9 c=some (.list ((S.getD k aB).items.map C0))->Q (.ref c) B9):J9 W (n+1) (.ref 796) [.ref V,C0 k] σ Q:=by
 have hs:S.getD k aB∈S:=B5 (W5 aB hk)
 have kp:=au.kp _ hs
 have ks:=au.ks _ hs
 have it:=au.it _ hs
 have hA:=hV.ia
 have z1:=ks.len w
 have z2:(S.getD k aB).items.length<=15:=by rw[it];exact ks.close.len w
 have ek:dU (S.getD k aB).k=(S.getD k aB).k:=(GB (.refl _) (kp.1.imp M8)).symm
 have e:(S.getD k aB).k++dU ((S.getD k aB).items.filter λ m=>!decide (m∈(S.getD k aB).k))=(S.getD k aB).items:=by
  rw[it]
  unfold Gr.close
  rw[ek,G7,(R3 (l:=(S.getD k aB).k)).mpr λ m hm=>by rw[H3 hm];exact C5,(fC (l:=dU (G.HW (S.getD k aB).k))).mpr λ m hm=>by rw[J8 (CI ((N8 _).mem_iff.mp hm)).2];rfl,X6,(GB (.refl _) (FZ _)).symm]
 have Hv:=(hA.at hk)
 refine P.fn nE 59 rfl (ρ:=[.ref V,C0 k,.M7]) rfl (K1 (H7 (p1 (I8 (D8 rfl (hV.ob.fld _)) rfl (I0 hV.co (V5 (bX hk))))) (CH (by rw[A8];exact A9 z1 (by decide)) λ c hc=>?_)))
 have L:Led σ _ [(c,.list ((S.getD k aB).k.map C0))] []:=(Led.start σ).alloc hc _
 generalize σ.set c _=aL at L ⊢
 refine W3 (O6 (P2 rfl (T5 (F9 (OY (l:=(S.getD k aB).items) (f:=C0) (g:=C0) (p:=λ m=>!decide (m∈(S.getD k aB).k)) (Led.start aL) (D8 (I8 (D8 (D8 rfl ((hV.ob.ext L.ext).fld _)) ((hA.ext L.ext).ob.fld _)) rfl ((hA.ext L.ext).sub hk)) ((Hv.ext L.ext).ob.fld _)) (qT (Hv.ext L.ext).it z2 rfl) (λ _ _=>rfl)
  (λ m hm R hR=>uT (oU rfl rfl (in_list (L.get 0 rfl))) hR) (λ m hm _ R hR=>P2 rfl hR) λ c2 W9 E2 L2=>M0 (dE (L2.get 0 rfl) (H8 (A9 (H4 ..) z2) (by decide)) λ c3 CT=>?_))))))
 have E3:=E2.trans (Ext.new CT (.list ((dU ((S.getD k aB).items.filter λ m=>!decide (m∈(S.getD k aB).k))).map C0)))
 refine gH (L.grow E3) ((L.grow E3).get 0 rfl) (PH.J7 ..) ?_ λ c4 bM L4=>q c4 bM L4.ext (L4.new _ (.tail _ (.head _))) ((L4.get 1 rfl).trans (by rw[<-C1,e]))
 rw[<-B0,<-C1,e,A8];exact A9 z2 (by decide)
include sh hG
theorem Ft{k m:Nat}(hk:k<S.length)(hm:m∈(S.getD k aB).items)(q:∀B9,Ext σ B9->Q (.str (zP G B.ms k m)) B9):J9 W (n+2) (.ref 808) [.ref V,C0 k,C0 m] σ Q:=by
 have hs:S.getD k aB∈S:=B5 (W5 aB hk)
 have lt:=au.lt hs m hm
 have it:=Gr.it lt
 have hi:=tE lt
 have z0:Sz 32770 (Z4 (G.S6 m)):=Sz.Z4 (G6 _) (by have:=w.rules;lia)
 have z1:=GZ w sh lt
 have fu:=Ao (G:=G) (m:=m)
 unfold zP at q
 refine P.fn kT 60 rfl (ρ:=[.ref V,C0 k,C0 m,.M7,.M7,.M7,.M7]) rfl (P3 (D8 rfl (hV.ob.fld _)) (K1 (J1 rfl (hG.H2 "rule_of" 164 (by simp)) (p1 rfl) (lM (n:=n) P hG it (K1 (O6 (O6 (H7 (p1 rfl) (CE (Tn (D1 hi (A9 w.rules (C3 rfl)))) (P2 rfl (w_add z0 (.lit rfl:Sz 1 _) rfl (T5 (F9 (P2 rfl (F9 (P2 rfl (F9 (J1 rfl (hG.H2 "dot_of" 171 (by simp)) (p1 rfl) (CA (n:=n) P hG it (M0 (Fj (n:=n) P w sh hG hi it.dot λ aL E=>w_add (z0.app (.lit rfl:Sz 1 (oS " "))) (EB w sh hi) rfl ?_)))))))))))))))))))))
 have TP:=hG.ext E
 have e8:=hV.ext E
 refine iH (VP (uT (t:=decide ((G.S6 m:Int)=0)) (N3 rfl rfl rfl) ?_))
 cases h0:decide ((G.S6 m:Int)=0)with
 |true=>
  rw[h0]at fu
  rw[fu]at q
  exact⟨λ _=>qS (P2 rfl (q aL E)),λ h=>nomatch h⟩
 |false=>
  refine iD (J1 rfl (TP.H2 "after" 178 (by simp)) (p1 rfl) (zD (n:=n) P TP it (P2 rfl ⟨_,rfl,λ h=>?_,λ h=>O7 ?_⟩)))
  ·rw[h0,show decide (OH (G.PT m) (G.rU m)>=0)=true from h]at fu
   rw[fu]at q
   exact qS (P2 rfl (q aL E))
  ·rw[h0,show decide (OH (G.PT m) (G.rU m)>=0)=false from h]at fu
   rw[F7 (show full G m=true from fu)]at q
   have hZ:=XC hV.mi hk (JT au hs hm fu);delta hZ k1 k2
   refine A0 (TP.names) λ na hZ=>?_;delta hZ n1 n2
   have z2:=GX (z:=EQ B.ms k (G.S6 m)) w sh
   have s1:=z1.app (.lit rfl:Sz 3 (oS "  ["))
   refine K1 (jH (H7 (p1 (I8 (D8 rfl (e8.ob.fld _)) (oV (I9 rfl (p1 rfl))) ((bE e8.ma (bF [k,G.S6 m])).trans k2))) (CB (n:=n) P k1 (A9 w.t5 (by decide)) λ cb W9 E2 fj hl=>lL (p:=λ _=>true) (g:=λ s=>.str (aP G s)) (V6 hl (by rw[A8];exact A9 (H4 ..) (by rw[D9];exact A9 w.t5 (by decide)))) (iE hl)
    (λ s hs Y9 E3 R hR _=>⟨[C0 s],rfl,uT rfl (P2 (I8 (D8 rfl (U8 (E2.trans E3) n1)) rfl (W8 sD ((E2.trans E3) _ _ n2) (D1 (Gf hs) w.tc))) (hR rfl _ (.refl _)))⟩) λ Y9 E3 c hc=>?_)))
   have E4:=E3.trans (Ext.new hc (.list (((X7 (EQ B.ms k (G.S6 m)) G.tc).filter λ _=>true).map λ s=>.str (aP G s))))
   have fN:=PH.J7 Y9 c (.list (((X7 (EQ B.ms k (G.S6 m)) G.tc).filter λ _=>true).map λ s=>.str (aP G s)))
   generalize Y9.set c _=bM at E4 fN ⊢
   rw[fC.mpr λ _ _=>rfl]at fN
   exact W3 (O6 (O6 (O6 (P2 rfl (P2 rfl (w_add z1 (.lit rfl:Sz 3 _) rfl (J1 rfl (dO rfl) (p1 rfl) (HS (l:=(X7 (EQ B.ms k (G.S6 m)) G.tc).map (aP G)) (by rw[fN,G2];rfl) (.lit rfl:Sz 2 _) z2.2 z2.1 rfl λ z3=>w_add s1 z3 rfl (P2 rfl (w_add (s1.app z3) (.lit rfl:Sz 2 _) rfl (q bM ((E.trans E2).trans E4))))))))))))
end
theorem YZ{x:PV}(h:scalar x=true):vW x x=true:=by
 cases x<;>first|exact H3 rfl|exact absurd h C5
theorem FD:∀{l:List PV},l.all scalar=true->DJ l l=true
 |[],_=>rfl
 |x::l,h=>by
  have hZ:=F0.mp (dF.symm.trans h);delta hZ h1 h2
  show(vW x x&&DJ l l)=true
  rw[YZ h1,FD h2];rfl
theorem KB{x:PV}(h:fA x=true):KC x x=true:=by
 cases x with
 |tup xs=>exact FD h
 |int i=>exact H3 rfl
 |str s=>exact H3 rfl
 |_=>cases h
theorem FE:∀{l:List PV},l.all fA=true->BS l l=true
 |[],_=>rfl
 |x::l,h=>by
  have hZ:=F0.mp (dF.symm.trans h);delta hZ h1 h2
  show(KC x x&&BS l l)=true
  rw[KB h1,FE h2];rfl
theorem iQ{σ:PH}{a b:Addr}{xs:List PV}(ha:σ a=some (.list xs))(hb:σ b=some (.list xs))(h:xs.all fA=true):Bk σ (.ref a) (.ref b)=some true:=by
 show Ij σ a b=_
 unfold Ij
 rw[ha,hb]
 show(if _ then some (BS xs xs)else none)=_
 rw[F7 ⟨h,h⟩,FE h]
theorem RJ{σ:PH}{a b:Addr}{xs:List PV}(ha:σ a=some (.list xs))(hb:σ b=some (.list []))(h:xs.all fA=true):Bk σ (.ref a) (.ref b)=some xs.isEmpty:=by
 show Ij σ a b=_
 unfold Ij
 rw[ha,hb]
 show(if _ then some (BS xs [])else none)=_
 rw[F7 ⟨h,rfl⟩]
 clear ha h;cases xs<;>rfl
theorem uU(l:List Str):(l.map PV.str).all fA=true:=by rw[cS];exact G3.mpr λ _ _=>rfl
def DH(k:Nat):Str:=oS "State "++Z4 k
def Ie(G:Gr)(D:fP)(k i:Nat):List (Str×Str):=if D.goal k (G.tc+i)>=0 then[(aP G (G.tc+i),oS "go to state "++Z4 (D.goal k (G.tc+i)))]else[]
def iP(G:Gr)(D:fP)(k:Nat):List (Str×Str):=(List.range (G.names.length - G.tc)).flatMap (Ie G D k)
def yD(G:Gr)(S:List St)(ms:List (PK×PV))(k:Nat):List Str:=(S.getD k aB).items.map λ m=>oS "    "++zP G ms k m
def jB(acc p:List Str):List Str:=if p=[]then acc else acc++[oS ""]++p
theorem Ap(acc:List Str):jB acc []=acc:=F7 rfl
def SP(G:Gr)(D:fP)(S:List St)(ms:List (PK×PV))(k:Nat):List Str:=jB (jB ([DH k,oS ""]++yD G S ms k) (Z0 (U9 G D k))) (Z0 (iP G D k))++[oS ""]
theorem DM.HD{G:Gr}{τ:PH}{K k:Nat}{D:fP}(h:DM G τ K D)(hk:k<K)(y:Nat):D.goal k y<32768∧ -1<=D.goal k y:=by
 show((D.QV.getD k (0,0,[])).2.2.lookup y).getD (-1)<32768∧_<=((D.QV.getD k (0,0,[])).2.2.lookup y).getD (-1)
 cases e:(D.QV.getD k (0,0,[])).2.2.lookup y with
 |none=>exact⟨by decide,by decide⟩
 |some v=>
  have:=(h.g2 _ (B5 (W5 (0,0,[]) (h.g1▸hk)))).2 _ (GV e)
  exact⟨this.2,Int.le_trans (by decide) this.1⟩
theorem Jn{G:Gr}(w:G.Wf)(sh:Short G){ms:List (PK×PV)}{k m:Nat}(h:m<G.aS.length):Sz 41000 (zP G ms k m):=by
 have z1:=GZ w sh h
 unfold zP
 split
 ·have z2:=GX (z:=EQ ms k (G.S6 m)) w sh
  have z3:Sz (5*10+5*2) (Kk G (EQ ms k (G.S6 m))):=A9 (StrLaws.join_length_le _ _) (Sz.join (.lit rfl:Sz 2 _) z2.2 z2.1)
  exact(((z1.app (.lit rfl:Sz 3 _)).app z3).app (.lit rfl:Sz 1 _)).mono (C3 rfl)
 ·exact z1.mono (C3 rfl)
theorem Oe.app{a b:List (Str×Str)}{k:Nat}(ha:∀p∈a,Sz 10 p.1∧Sz 40000 p.2)(hb:∀p∈b,Sz 10 p.1∧Sz 40000 p.2):∀p∈a++b,Sz 10 p.1∧Sz 40000 p.2:=λ p hp=>(G9.mp hp).elim (ha p) (hb p)
section
variable{G:Gr}{τ:PH}{K k:Nat}{D:fP}(w:G.Wf)(sh:Short G)(h:DM G τ K D)(hk:k<K)
include w sh h hk
omit sh in
theorem EC:(∀t,(LD G D k t).length<=1)∧(∀t,(CV G D k t).length<=7)∧(U9 G D k).length<=64:=by
 have z1:∀t,(LD G D k t).length<=1:=λ t=>by unfold LD;split;exact D7 _;exact K3 _
 have z2:∀t,(PX G D k t).length<=1:=λ t=>by unfold PX;split;exact D7 _;exact K3 _
 have z3:∀t,(Ki G D k t).length<=6:=λ t=>by unfold Ki;rw[A8];exact(h.cs.NB hk t).len w
 have z4:∀t,(CV G D k t).length<=7:=λ t=>by unfold CV;rw[B0];exact(S0 (z2 t) (z3 t):_<=1+6)
 refine⟨z1,z4,?_⟩
 have y1:=VE z1 (List.range G.tc)
 have y2:=VE z4 (List.range G.tc)
 rw[D9]at y1 y2
 have zt:=w.t5
 unfold U9
 rw[B0,B0]
 have:(Bn G D k).length<=1:=by unfold Bn;split;exact K3 _;exact D7 _
 lia
theorem IS:Oe (U9 G D k):=by
 refine⟨(EC w h hk).3,?_⟩
 have ca:∀{z},Cell G.rules.length z->Sz 40000 (bT G z):=λ c=>(uL w sh c).mono (by decide)
 have bit:∀(c:Prop) [Decidable c] (p:Str×Str),Sz 10 p.1->Sz 40000 p.2->∀x∈(if c then[p]else[]),Sz 10 x.1∧Sz 40000 x.2:=λ c _ p h1 h2 x hx=>by
  split at hx
  ·rewrite[D5.mp hx];exact⟨h1,h2⟩
  ·nomatch hx
 refine Oe.app (k:=0) (λ p hp=>?_) (Oe.app (k:=0) (λ p hp=>?_) λ p hp=>?_)
 ·refine A0 (P6.mp hp) λ t hZ=>?_;delta hZ ht hp
  exact bit _ _ (sh.nm t) (ca (h.cell hk (N1.mp ht))) p hp
 ·refine A0 (P6.mp hp) λ t hZ=>?_;delta hZ ht hp
  rcases G9.mp hp with hp|hp
  ·exact bit _ _ (sh.nm t) (ca (h.cell hk (N1.mp ht))) p hp
  ·refine A0 (D2.mp hp) λ r hZ=>?_;generalize hZ.1=hr;clear hp;obtain rfl:=hZ.2;try clear hZ
   exact⟨sh.nm t,(((.lit rfl:Sz 1 (oS "[")).app (uL w sh (Cell.neg ((h.cs.NB hk t).lt r hr).2))).app (.lit rfl:Sz 1 (oS "]"))).mono (by decide)⟩
 ·unfold Bn at hp
  split at hp
  ·nomatch hp
  ·rewrite[D5.mp hp];exact⟨.lit rfl,ca (Cell.neg (h.Yb hk))⟩
theorem QU:(∀i,(Ie G D k i).length<=1)∧Oe (iP G D k):=by
 have z1:∀i,(Ie G D k i).length<=1:=λ t=>by unfold Ie;split;exact D7 _;exact K3 _
 refine⟨z1,?_,λ p hp=>?_⟩
 ·refine A9 (VE z1 _) ?_
  rw[D9]
  have:=w.names
  lia
 ·refine A0 (P6.mp hp) λ t hZ=>?_;delta hZ ht hp
  unfold Ie at hp
  split at hp
  ·rewrite[D5.mp hp]
   exact⟨sh.nm _,((.lit rfl:Sz 12 (oS "go to state ")).app (Sz.Z4 ‹_› (h.HD hk _).1)).mono (by decide)⟩
  ·nomatch hp
end
theorem Hk{σ:PH}{ρ:List PV}{i:Nat}{v:PV}{c:Addr}(e:v=.ref c)(h:ρ[i]? =some v):pv σ ρ (.loc i)=some (.ref c):=by
 subst e;exact WS h rfl
theorem CJ:∀{l:List (Addr×List Str)} {acc:List Str},(∀p∈l,p.2.length<=64)->(l.foldl (λ a p=>jB a p.2) acc).length<=acc.length+65*l.length
 |[],_,_=>D7 _
 |p::l,acc,h=>by
  have h1:=CJ (l:=l) (acc:=jB acc p.2) λ x hx=>h x (.tail _ hx)
  have h2:=h p (.head _)
  have:(jB acc p.2).length<=acc.length+65:=by
   unfold jB
   split
   ·exact J6 _ _
   ·rw[B0,B0];show _+1+_<=_;lia
  rw[J0,H5];lia
section
variable{W:Wd}(P:dR W){n:Nat}{σ:PH}{V g T:Addr}{B:Oc}{A:Au}{G:Gr}{S:List St}{D:fP}{Q:PV->PH->Prop}(w:G.Wf)(sh:Short G)(hG:qA σ g G)(hV:Iu σ V g B G S)(hT:wJ σ T A G S.length D)(au:yL G S)
include P w sh hG hV hT au
theorem ZR{k:Nat}(hk:k<S.length)(q:∀c B9,Ext σ B9->B9 c=some (.list ((SP G D S B.ms k).map .str))->Q (.ref c) B9):J9 W (n+3) (.ref 853) [.ref V,.ref T,C0 k] σ Q:=by
 have zk:k<32768:=D1 hk au.len
 have z0:Sz 32770 (Z4 k):=Sz.Z4 (G6 k) (by lia)
 have hs:S.getD k aB∈S:=B5 (W5 aB hk)
 have zi:(S.getD k aB).items.length<=15:=by rw[au.it _ hs];exact(au.ks _ hs).close.len w
 have Zh:=IS w sh hT.p hk
 have hZ:=QU w sh hT.p hk;delta hZ zg Zg
 refine P.fn tI 66 rfl (ρ:=[.ref V,.ref T,C0 k,.M7,.M7,.M7,.M7,.M7,.M7]) rfl (K1 (bQ (F9 (O6 (P2 rfl (H7 (p1 rfl) (CE (Tn zk) (w_add (.lit rfl:Sz 6 _) z0 rfl (F9 (P2 rfl (M0 λ c3 CT=>?_)))))))))))
 have L:Led σ _ [(c3,.list ([DH k,oS ""].map .str))] []:=(Led.start σ).alloc CT _
 generalize Kx:σ.set c3 _=aL
 rw[show σ.set c3 (.list ([DH k,oS ""].map .str))=aL from Kx]at L
 refine Z2 (J1 rfl ((hV.ext L.ext).ob.H2 "items_of" rfl rfl) (p1 rfl) (UI (n:=n+1) P w (hV.ext L.ext) au hk λ ci W9 E2 ax Qw=>Led.keep (L:=[(c3,.list ([DH k,oS ""].map .str))]) (L.adopt E2 ax Qw) λ τ E L2 gB=>?_))
 have Qw:=gB _ (.head _)
 have G1:=hG.ext E
 have V1:=hV.ext E
 have T1:=hT.ext E
 clear hG hV hT L gB
 let I3:List Nat->List Str:=λ pre=>[DH k,oS ""]++pre.map λ m=>oS "    "++zP G B.ms k m
 refine Z1 (λ v=>[.ref V,.ref T,C0 k,.ref c3,v 4,v 5,v 6,v 7,v 8]) (l:=(S.getD k aB).items) (f:=C0) (λ pre _ B9=>Led τ B9 [(c3,.list ((I3 pre).map .str))] []) rfl (qT (L2.ext _ _ Qw) zi rfl) L2 ?_ λ u Y9 L=>?_
 ·intro pre m post u bM R hl L hR
  have hZ:=P5 hl;delta hZ hp hm
  have z1:=Jn (ms:=B.ms) (k:=k) w sh (au.lt hs m hm)
  refine N4 (T0 rfl (N9 (L.get 0 rfl) _) (F9 (O6 (P2 rfl (J1 rfl ((V1.ext L.ext).ob.H2 "show_item" rfl rfl) (I9 rfl (p1 rfl)) (Ft (n:=n) P w sh (G1.ext L.ext) (V1.ext L.ext) au hk hm λ cI E5=>w_add (.lit rfl:Sz 4 _) z1 rfl (M0 (aX 0 (L.grow E5) rfl ?_ λ eM _ L6=>s_end (hR .next _ _ trivial ((L6.ext _ _ Qw).trans (L2.ext _ _ Qw).symm) ?_ rfl)))))))))
  ·rw[A8,B0,A8];show 2+_<=_;lia
  ·show Led τ eM [(c3,.list (([DH k,oS ""]++(pre++[m]).map _).map .str))] _
   rw[Q5,<-C6,Q5];exact L6
 have z3:(I3 (S.getD k aB).items).length<=17:=by
  show([DH k,oS ""]++_).length<=17
  rw[B0,A8];show 2+_<=_;lia
 have e3:I3 (S.getD k aB).items=[DH k,oS ""]++yD G S B.ms k:=rfl
 generalize I3 (S.getD k aB).items=base at L z3 e3
 refine K1 (K7 L rfl λ c5 cI L=>?_)
 refine Z2 (H7 (I9 (D8 rfl ((T1.ob.ext L.ext).fld _)) (p1 (V8 (D8 rfl ((T1.ob.ext L.ext).fld _)) (len_list (L.ext _ _ T1.nm) (A8 _))))) (KK (Z1 (λ v=>[.ref V,.ref T,C0 k,.ref c3,v 4,.ref c5,v 6,v 7,v 8]) (l:=List.range (G.names.length - G.tc)) (f:=λ i=>C0 (G.tc+i)) (λ pre _ B9=>Led τ B9 [(c3,.list (base.map .str)),(c5,.list ((pre.flatMap (Ie G D k)).map wO))] []) rfl (QM w.tc (A9 w.names (by decide))) L ?_ λ u eM L=>?_)))
 ·intro pre i post u eM R hl L hR
  have hZ:=P9 hl;delta hZ hp hi
  have y1:=VE zg pre
  have y2:=w.names
  have y3:pre.length<=10:=by rw[hp,D9];exact DW hi w.names
  have hT:=T1.ext L.ext
  have hZ:=T1.p.HD hk (G.tc+i);delta hZ g1 g2
  rw[Q7,Q2]at hR
  generalize pre.flatMap (Ie G D k)=b at L hR y1
  unfold Ie at hR
  refine K1 (J1 rfl (hT.ob.H2 "goto" rfl rfl) (I9 rfl (p1 rfl)) (NY (n:=n+1) P hT hk (dA (t:=decide (D.goal k (G.tc+i)>=0)) (N3 rfl rfl rfl) (λ h=>?_) λ h=>O7 (s_end (hR .next _ _ trivial trivial (by rw[G0 (K6 h),C9];exact L) rfl)))))
  have h:=D0 h
  rw[F7 h]at hR
  refine N4 (T0 rfl (N9 (L.get 1 rfl) _) (F9 (dM (F9 (P2 (I8 (D8 rfl (hT.ob.fld _)) rfl (W8 sD hT.nm (by lia))) (F9 (O6 (P2 rfl (H7 (p1 rfl) (CE (by lia) (w_add (.lit rfl:Sz 12 _) (Sz.Z4 h g1) rfl (M0 (M0 (aX 1 L rfl (by rw[A8];lia) λ eX _ L7=>O7 (s_end (hR .next _ _ trivial trivial ?_ rfl))))))))))))))))
  show Led τ eX [_,(c5,.list (List.map wO (_++[_])))] _
  rw[Q5];exact L7
 refine Z2 (dM (F9 (T5 (F9 (H7 (I9 rfl (p1 rfl)) (Mm (n:=n) P w sh (T1.ext L.ext) au.len hk λ ca dk Ea _ LG _=>M0 (RR (n:=n+1) P LG Zh λ c6 eX E7 _ ae=>F9 (H7 (p1 rfl) (RR (n:=n+1) P ((L.grow (Ea.trans E7)).get 1 rfl) Zg λ c7 qC E8 _ ab=>F9 (H7 (I9 rfl (p1 rfl)) (UE (n:=n+1) P (T1.ext ((L.grow (Ea.trans E7)).grow E8).ext) λ c8 IG E9 _ z9=>M0 ?_)))))))))))
 have L:=((L.grow (Ea.trans E7)).grow E8).grow E9
 have Ub:∀p∈[(c6,Z0 (U9 G D k)),(c7,Z0 (iP G D k)),(c8,[])],IG p.1=some (.list (p.2.map .str))∧p.2.length<=64:=λ p hp=>by
  have z:∀l:List (Str×Str),(Z0 l).length=l.length:=λ l=>A8 _
  rcases F8.mp hp with rfl|hp;exact⟨(E8.trans E9) _ _ ae,by rw[z];exact Zh.1⟩
  rcases F8.mp hp with rfl|hp;exact⟨E9 _ _ ab,by rw[z];exact Zg.1⟩
  rewrite[D5.mp hp];exact⟨z9,K3 _⟩
 have ee:SP G D S B.ms k=[(c6,Z0 (U9 G D k)),(c7,Z0 (iP G D k)),(c8,[])].foldl (λ a p=>jB a p.2) base++[oS ""]:=by rw[e3];show _=jB (jB (jB _ _) _) []++_;rw[Ap];rfl
 rw[ee]at q
 have lz:[(c6,Z0 (U9 G D k)),(c7,Z0 (iP G D k)),(c8,[])].length<=3:=D7 _
 generalize d6:[(c6,Z0 (U9 G D k)),(c7,Z0 (iP G D k)),(c8,[])]=ls at q Ub lz
 have E0:=E.trans L.ext
 refine Z1 (λ v=>[.ref V,.ref T,C0 k,v 3,v 4,v 5,v 6,v 7,v 8]) (l:=ls) (f:=λ p=>.ref p.1) (λ pre v B9=>∃c,v 3=.ref c∧Ext IG B9∧B9 c=some (.list ((pre.foldl (λ a p=>jB a p.2) base).map .str))) rfl (d6▸rO (C3 rfl)) ⟨c3,rfl,.refl _,L.get 0 rfl⟩ ?_ ?_
 ·intro pre p post u eM R hl hQ;intros hQ c hZ;delta hZ h3 E1 hc;intro hR
  have hZ:=P5 hl;delta hZ TJ hp
  have hZ:=Ub p hp;delta hZ Hx Nr
  have zz:=CJ (l:=pre) (acc:=base) λ x hx=>(Ub x (hl▸H0 _ hx)).2
  rw[K9]at hR
  generalize pre.foldl (λ a p=>jB a p.2) base=acc at hc hR zz
  have hR:∀(fl:Fl) (O5:List PV) (B9:PH),fl.go->(∃c,lo O5 3=.ref c∧Ext IG B9∧B9 c=some (.list ((jB acc p.2).map .str)))->O5=[.ref V,.ref T,C0 k,lo O5 3,lo O5 4,lo O5 5,lo O5 6,lo O5 7,lo O5 8]->R fl O5 B9:=λ fl O5 B9 h1 h2 h3=>hR fl O5 B9 h1 trivial h2 h3
  unfold jB at hR
  refine iH (iD (P2 rfl (K7 (Led.start eM) rfl λ cl eX L1=>⟨!(p.2.map PV.str).isEmpty,?_,λ h=>?_,λ h=>O7 (s_end (hR .next _ _ trivial ?_ rfl))⟩)))
  ·show Option.map _ (Bk eX (.ref p.1) (.ref cl))=_
   rw[RJ (L1.ext _ _ (E1 _ _ Hx)) (L1.get 0 rfl) (uU _)];rfl
  ·have ne:p.2≠[]:=λ e=>by rw[e]at h;cases h
   rw[G0 ne]at hR
   refine K1 (O6 (O6 (P2 (Hk h3 rfl) (K7 L1 rfl λ cm qC L2=>gH L2 (L2.ext _ _ hc) (L2.get 1 rfl) ?_ λ cn iW L3=>P2 rfl (gH L3 (L3.get 2 rfl) ((E1.trans L3.ext) _ _ Hx) ?_ λ co oA L4=>O7 (s_end (hR .next _ _ trivial ⟨co,rfl,E1.trans L4.ext,?_⟩ rfl)))))))
   ·rw[A8];show _+1<=_;lia
   ·rw[B0,A8,A8];show _+1+_<=_;lia
   ·rw[C1,C1];exact L4.get 3 rfl
  ·have e:p.2=[]:=by
    cases h':p.2 with
    |nil=>rfl
    |cons=>rw[h']at h;cases h
   rw[F7 e]
   exact⟨c,h3,E1.trans L1.ext,L1.ext _ _ hc⟩
 ·intro u eM hQ;intros hQ c hZ;delta hZ h3 E1 hc
  have zz:=CJ (l:=ls) (acc:=base) λ x hx=>(Ub x hx).2
  refine W3 (O6 (P2 (Hk h3 rfl) (K7 (Led.start eM) rfl λ cm qC L2=>gH L2 (L2.ext _ _ hc) (L2.get 0 rfl) ?_ λ cn iW L3=>q cn iW (E0.trans (E1.trans L3.ext)) ?_)))
  ·rw[A8];show _+1<=_;lia
  ·rw[C1];exact L3.get 1 rfl
end
abbrev cp(x:Str):List Nat:=x.cps.toList
theorem U1(a b:Str):cp (a++b)=cp a++cp b:=(C7 _ (Str.cps_append a b)).trans Array.toList_append
theorem eG(a:Str):(cp a).length=a.length:=bZ
theorem dQ(a b c:Str):a++b++c=a++(b++c):=Str.ext2 (by rw[<-cp,<-cp,U1,U1,U1,U1,C6])
theorem MA(x:Str){i j:Nat}(h:i<=j)(hj:j<=x.length):Txt.slice x (some (i:Int)) (some (j:Int))=⟨(((cp x).drop i).take (j - i)).toArray⟩:=StrLaws.sliceText_nat x h hj
theorem yO(a b:Str):Txt.slice (a++b) (some (a.length:Int)) none=b:=by
 have e:Txt.slice (a++b) (some (a.length:Int)) none=Txt.slice (a++b) (some (a.length:Int)) (some ((a++b).length:Int)):=by unfold Txt.slice;rw[StrLaws.sliceIdx_none_hi]
 rw[e,MA _ (by rw[R7];exact J6 _ _) (D7 _)]
 refine Str.ext2 ?_
 show((cp (a++b)).drop a.length).take _=cp b
 rw[U1,<-eG a,nY,R7,<-eG a,W0,<-eG b,cB]
theorem Ca(a b:Str):Txt.slice (a++b) none (some (a.length:Int))=a:=by
 have e:Txt.slice (a++b) none (some (a.length:Int))=Txt.slice (a++b) (some ((0:Nat):Int)) (some (a.length:Int)):=by unfold Txt.slice;rw[StrLaws.sliceIdx_none_lo];rfl
 rw[e,MA _ (K3 _) (by rw[R7];exact J6 _ _)]
 refine Str.ext2 ?_
 show((cp (a++b)).drop 0).take _=cp a
 rw[U1,List.drop_zero,Nat.sub_zero,<-eG a,List.take_left]
theorem Jm(a x b:Str)(ha:a.length=1)(hb:b.length=1):Txt.slice (a++x++b) (some 1) (some (-1))=x:=by
 have l:(a++x++b).length=x.length+2:=by rw[R7,R7,ha,hb];lia
 have e:Txt.slice (a++x++b) (some 1) (some (-1))=Txt.slice (a++x++b) (some ((1:Nat):Int)) (some ((x.length+1:Nat):Int)):=by
  unfold Txt.slice
  rw[StrLaws.sliceIdx_neg_hi _ _ (by decide) (by rw[l];lia),l,show -1+((x.length+2:Nat):Int)=((x.length+1:Nat):Int) by lia];rfl
 rw[e,MA _ (aA _ _) (by rw[l];lia)]
 refine Str.ext2 ?_
 show((cp (a++x++b)).drop 1).take _=cp x
 rw[dQ,U1,<-ha,<-eG a,nY,U1,eG,ha,Nat.add_sub_cancel,<-eG x,List.take_left]
theorem SF{x y:Str}{hi k c:Nat}(h:StrLaws.At x y hi k){j:Nat}(hc:(cp y)[j]? =some c):(cp x)[k+j]? =some c:=by
 have e:=eq_of_beq ((StrLaws.subAt_eq x y k).symm.trans h.2)
 have VD:y.cps.toList[j]? =some c:=hc
 rw[<-e,List.getElem?_take,List.getElem?_drop]at VD
 split at VD
 ·exact VD
 ·cases VD
theorem HT(a y b:Str):StrLaws.At (a++(y++b)) y (a++(y++b)).length a.length:=by
 refine⟨by rw[R7,R7];lia,?_⟩
 rw[StrLaws.subAt_eq]
 show List.take _ ((cp _).drop _)==cp y
 rw[U1,<-eG a,nY,U1,<-eG y,List.take_left]
 exact O2 _
def Ax(c:Nat)(x:Str):Prop:=∀d∈cp x,d≠c
theorem Ax.no{c:Nat}{a b y:Str}(h:Ax c a)(hy:(cp y)[0]? =some c){hi:Nat}:∀k,k<a.length->¬StrLaws.At (a++b) y hi k:=λ k hk Di=>by
 have e:=SF Di hy
 rw[U1,Nat.add_zero,I4 (by rw[eG];exact hk)]at e
 exact h _ (B5 e) rfl
theorem YI{a y b:Str}{c:Nat}(h:Ax c a)(hy:(cp y)[0]? =some c):Txt.find (a++(y++b)) y=a.length:=by
 rcases find_whole (a++(y++b)) y with⟨_,no⟩|⟨i,e,Di,no⟩
 ·exact absurd (HT a y b) (no _)
 ·rw[e]
  rcases qG i a.length with h1|h1|h1
  ·exact absurd Di (h.no hy i h1)
  ·rw[h1]
  ·exact absurd (HT a y b) (no _ h1)
theorem SS{a y b:Str}{c:Nat}(h:Ax c a)(hy:(cp y)[0]? =some c)(hk:Builtin.Str.strKind y=1):(Txt.split (a++(y++b)) y)[0]? =some a:=by
 have hp:=split_pos (a++(y++b)) y
 have e0:=C4 (show 0<(Txt.split (a++(y++b)) y).length from hp)
 rw[e0]
 refine C7 some ?_
 rcases split_head _ y hk _ e0 with⟨_,no⟩|⟨i,e,Di,no⟩
 ·exact absurd (HT a y b) (no _)
 ·have:i=a.length:=by
   rcases qG i a.length with h1|h1|h1
   ·exact absurd Di (h.no hy i h1)
   ·exact h1
   ·exact absurd (HT a y b) (no _ h1)
  rw[e,this,strSub_mk]
  refine Str.ext2 ?_
  show((cp (a++(y++b))).drop 0).take _=cp a
  rw[U1,List.drop_zero,Nat.sub_zero,<-eG a,List.take_left]
def Hd(x:Str):Prop:=∃c t,cp x=c::t∧Unicode.isSpace c=false
def Ls(x:Str):Prop:=∃c t,cp x=t++[c]∧Unicode.isSpace c=false
theorem Hd.app{a b:Str}(h:Hd a):Hd (a++b):=let⟨c,t,e,s⟩:=h;⟨c,t++cp b,by rw[U1,e];rfl,s⟩
theorem Ls.app{a b:Str}(h:Ls b):Ls (a++b):=let⟨c,t,e,s⟩:=h;⟨c,cp a++t,by rw[U1,e,C6],s⟩
theorem pO{a m:Str}(ha:∀c∈cp a,Unicode.isSpace c=true)(h1:Hd m)(h2:Ls m):Txt.strip (a++m)=m:=by
 intros h1 c t hZ;delta hZ e1 s1
 intros h2 d u hZ;delta hZ e2 s2
 have lo:stripLo Unicode.isSpace true (a++m)=(cp a).length:=by
  show((cp (a++m)).takeWhile Unicode.isSpace).length=_
  rw[U1,List.takeWhile_append_of_pos ha,e1,List.takeWhile_cons_of_neg (by rw[s1];exact C5),C9]
 have hi:stripHi Unicode.isSpace true (a++m) (cp a).length=(a++m).length:=by
  show _ - (((cp (a++m)).drop (cp a).length).reverse.takeWhile Unicode.isSpace).length=_
  rw[U1,nY,e2,List.reverse_append]
  show _ - ((d::u.reverse).takeWhile Unicode.isSpace).length=_
  rw[List.takeWhile_cons_of_neg (by rw[s2];exact C5)];rfl
 unfold Txt.strip
 rw[PyProof.Rows.stripBy_eq,lo,hi,strSub_mk]
 refine Str.ext2 ?_
 show((cp (a++m)).drop _).take _=cp m
 rw[U1,nY,R7,eG,W0,<-eG m,cB]
theorem LX{m:Str}(h1:Hd m)(h2:Ls m):Txt.strip m=m:=by
 have:=pO (a:=Str.empty) (λ _ h=>nomatch h) h1 h2
 rwa [KT.empty_app]at this
theorem RL(n:Nat):(∀c∈cp (Z4 n),And (48<=c) (c<=57))∧cp (Z4 n)≠[]:=by
 refine⟨λ c hc=>?_,λ e=>?_⟩
 ·rw[cp,Z4,Str.ofString_eq_toList]at hc
  refine A0 (D2.mp hc) λ ch hZ=>?_;generalize hZ.1=h;clear hc;obtain rfl:=hZ.2;try clear hZ
  have h:ch∈(Nat.repr n).toList:=h
  rw[Nat.toList_repr]at h
  have h:=Nat.isDigit_of_mem_toDigits (by decide) (by decide) h
  simp only[Char.isDigit,W2,P8]at h
  exact⟨UInt32.le_iff_toNat_le.mp h.1,UInt32.le_iff_toNat_le.mp h.2⟩
 ·have:=KLn.one_le (n:=(n:Int)) (G6 n)
  rw[<-eG,e]at this
  exact absurd this (by decide)
theorem Zn{c:Nat}(h:And (33<=c) (c<127)):Unicode.isSpace c=false:=KXs.no_space c h.2 h.1
theorem Rb{x:Str}(h:∀c∈cp x,And (33<=c) (c<127))(ne:cp x≠[]):Hd x:=by
 unfold Hd
 cases e:cp x with
 |nil=>exact absurd e ne
 |cons c t=>exact⟨c,t,rfl,Zn (h c (e▸.head _))⟩
theorem Qg{x:Str}(h:∀c∈cp x,And (33<=c) (c<127))(ne:cp x≠[]):Ls x:=
 ⟨(cp x).getLast ne,(cp x).dropLast,(List.dropLast_concat_getLast ne).symm,Zn (h _ (List.getLast_mem ne))⟩
theorem QY{x:Str}(h:∀c∈cp x,And (33<=c) (c<127)):Ax 32 x:=λ d hd e=>by have:=(h d hd).1;lia
theorem RK(n:Nat):∀c∈cp (Z4 n),And (33<=c) (c<127):=λ c hc=>by have:=(RL n).1 c hc;lia
structure Wo(x:Str):Prop where
 ch:∀c∈cp x,And (33<=c) (c<127)
 ne:cp x≠[]
theorem VH{x:Str}(h:(cp x).all (λ c=>decide (And (33<=c) (c<127)))=true)(h':(cp x).isEmpty=false):Wo x:=⟨λ c hc=>D0 (G3.mp h c hc),λ e=>by rw[e]at h';cases h'⟩
theorem Wo.hd{x:Str}(h:Wo x):Hd x:=Rb h.ch h.ne
theorem Wo.ls{x:Str}(h:Wo x):Ls x:=Qg h.ch h.ne
theorem yM(n:Nat):Wo (Z4 n):=⟨RK n,(RL n).2⟩
structure VF(G:Gr):Prop where
 nd:G.names.Nodup
 wo:∀x∈G.names,Wo x
 sz:Short G
 df:oS "$default"∉G.names
theorem VF.at{G:Gr}(h:VF G){s:Nat}(hs:s<G.names.length):Wo (aP G s)∧aP G s≠oS "$default":=by
 have:=B5 (W5 (l:=G.names) sD hs)
 exact⟨h.wo _ this,λ e=>h.df (e▸this)⟩
theorem VF.inj{G:Gr}(h:VF G){s t:Nat}(hs:s<G.names.length)(ht:t<G.names.length)(e:aP G s=aP G t):s=t:=by
 have h1:=W5 (l:=G.names) sD hs
 have h2:=W5 (l:=G.names) sD ht
 exact(List.getElem?_inj hs h.nd).mp (h1.trans ((C7 some e).trans h2.symm))
theorem QH{s:Str}:∀{l:List Str},l≠[]->(∀x∈l,Ls x)->Ls (Str.join s l)
 |[],h,_=>absurd rfl h
 |[x],_,h=>h x (.head _)
 |x::y::l,_,h=>Ls.app (QH (sN y l) λ z hz=>h z (.tail _ hz))
theorem Hp:Ls (oS "]"):=⟨93,[],rfl,rfl⟩
theorem Jo{G:Gr}(w:G.Wf)(nm:VF G){ms:List (PK×PV)}{k m:Nat}(h:m<G.aS.length):Hd (zP G ms k m)∧Ls (zP G ms k m):=by
 have hd:Hd (NH G m):=Hd.app (Hd.app (yM _).hd)
 have ru:=B5 (Gr.tF w (tE h))
 have ls:Ls (NH G m):=Ls.app (Ls.app (QH (List.append_ne_nil_of_right_ne_nil _ (sN _ _)) λ x hx=>by
  have hw:∀y∈(G.rules.getD (G.S6 m) oF).right.map (aP G),Ls y:=λ y hy=>by
   refine A0 (D2.mp hy) λ s hZ=>?_;generalize hZ.1=hs;clear hy;obtain rfl:=hZ.2;try clear hZ
   exact(nm.at (w.sym _ ru s hs)).1.ls
  rcases G9.mp hx with hx|hx
  ·exact hw x (List.mem_of_mem_take hx)
  ·rcases F8.mp hx with rfl|hx
   ·exact⟨46,[],rfl,rfl⟩
   ·exact hw x (kJ hx)))
 unfold zP
 split
 ·exact⟨Hd.app (Hd.app (Hd.app hd)),Ls.app Hp⟩
 ·exact⟨hd,ls⟩
theorem pP{x y:Str}{c d:Nat}(hx:(cp x)[0]? =some c)(hy:(cp y)[0]? =some d)(ne:c≠d):Txt.startswith x y=false:=by
 cases h:Txt.startswith x y with
 |false=>rfl
 |true=>
  have hZ:=F0.mp h;delta hZ h1 h2
  have:=SF (hi:=x.length) ⟨D0 h1,h2⟩ hy
  rw[Nat.add_zero,hx]at this
  exact absurd (G8 this) ne
theorem dH{a b:Str}{c:Nat}(h:(cp a)[0]? =some c):(cp (a++b))[0]? =some c:=by
 rw[U1,I4 (D3.mp h).1,h]
structure dh(x:Str)(z:Int):Prop where
 c0:∃c,(cp x)[0]? =some c∧c≠103∧c≠91∧Unicode.isSpace c=false
 ls:Ls x
theorem Rc{x:Str}{c:Nat}(h:(cp x)[0]? =some c)(s:Unicode.isSpace c=false):Hd x:=by
 unfold Hd
 cases e:cp x with
 |nil=>rw[e]at h;cases h
 |cons d t=>rw[e]at h;cases h;exact⟨_,t,rfl,s⟩
theorem Yj{G:Gr}{R:Nat}{z:Int}(hz:Cell R z)(h0:z≠0):dh (bT G z) z:=by
 unfold bT
 split
 ·exact⟨⟨97,rfl,by decide,by decide,rfl⟩,⟨116,[97,99,99,101,112],rfl,rfl⟩⟩
 ·split
  ·rename_i h
   refine A0 (cC (Int.le_of_lt h)) λ n hZ=>?_;clear h hz;obtain rfl:=hZ
   exact⟨⟨115,dH rfl,by decide,by decide,rfl⟩,Ls.app (yM n).ls⟩
  ·rename_i h
   rw[F7 (by lia)]
   exact⟨⟨114,dH (dH (dH (dH rfl))),by decide,by decide,rfl⟩,Ls.app ⟨41,[],rfl,rfl⟩⟩
structure Of(p:Str×Str):Prop where
 nm:Wo p.1
 hd:Hd p.2
 ls:Ls p.2
def IV(w:Int)(p:Str×Str):Str:=Txt.ljust p.1 w++oS "  "++p.2
def cellOf(x:Str):Str×Str:=(Txt.slice x none (some (Txt.find x (oS "  "))),Txt.strip (Txt.slice x (some (Txt.find x (oS "  "))) none))
theorem IT{w:Int}{p:Str×Str}(h:Of p):Txt.strip (IU w p)=IV w p:=by
 have e:IU w p=oS "    "++IV w p:=by unfold IU IV;rw[dQ,dQ,<-dQ (Txt.ljust p.1 w)]
 rw[e]
 refine pO (λ c hc=>?_) ?_ (Ls.app h.ls)
 ·rewrite[bJ (n:=4) (a:=32) hc];rfl
 ·unfold IV;rw[BG];exact Hd.app (Hd.app (Hd.app h.nm.hd))
theorem ZH(k:Nat):cp (Ge k)=List.replicate k 32:=Array.toList_replicate
theorem ZN{w:Int}{p:Str×Str}(h:Of p):cellOf (IV w p)=p:=by
 have e:IV w p=p.1++(oS "  "++(Ge (w.toNat - p.1.length)++p.2)):=by
  unfold IV
  rw[BG,dQ,dQ]
  refine C7 (p.1++·) (Str.ext2 ?_)
  show cp _=cp _
  rw[U1,U1,U1,U1,ZH,<-C6,<-C6]
  refine C7 (·++cp p.2) ?_
  show List.replicate _ 32++List.replicate 2 32=List.replicate 2 32++List.replicate _ 32
  rw[List.replicate_append_replicate,List.replicate_append_replicate,aF]
 have f:=YI (b:=Ge (w.toNat - p.1.length)++p.2) (y:=oS "  ") (QY h.nm.ch) rfl
 unfold cellOf
 rw[e,f,Ca,yO]
 refine kH rfl ?_
 show Txt.strip _=p.2
 rw[<-dQ]
 refine pO (λ c hc=>?_) h.hd h.ls
 rw[U1,ZH]at hc
 have:c=32:=(G9.mp hc).elim (bJ (n:=2)) bJ
 rw[this];rfl
theorem r9:Builtin.Str.strKind (oS " ")=1:=by decide+kernel
section
variable{W:Wd}(P:dR W){n:Nat}{σ:PH}{Q:PV->PH->Prop}
include P
theorem wB{G:Gr}(w:G.Wf)(sh:Short G){z:Int}(hz:Cell G.rules.length z)(h0:z≠0)(q:∀B9,Ext σ B9->Q (.int z) B9):J9 W (n+1) (.ref 898) [.str (bT G z)] σ Q:=by
 have zz:=uL w sh hz
 refine P.fn EF 73 rfl (ρ:=[.str (bT G z)]) rfl ?_
 unfold bT at zz ⊢
 by_cases c1:z=1048576
 ·rw[F7 c1]
  exact dA (t:=true) (N3 rfl rfl rfl) (λ _=>qS (P2 rfl (c1▸q σ (.refl σ)))) λ h=>nomatch h
 ·rw[G0 c1]at zz ⊢
  have hz:=hz.resolve_left c1
  have ng:∀{x:Str} {c:Nat},(cp x)[0]? =some c->c≠97->x=oS "accept"->False:=λ h ne e=>by rw[e]at h;exact ne (G8 h).symm
  by_cases c2:z>0
  ·rw[F7 c2]
   refine A0 (cC (Int.le_of_lt c2)) λ i hZ=>?_;clear zz;obtain rfl:=hZ
   refine dA (t:=decide (oS "shift, and go to state "++Z4 (i:Nat)=oS "accept")) (N3 rfl rfl rfl) (λ h=>(ng (dH (c:=115) rfl) (by decide) (D0 h)).elim) λ _=>O7 (iH (PD (J1 rfl (dO rfl) (p1 rfl) (cE ⟨_,rfl,λ _=>qS ?_,λ h=>?_⟩))))
   ·refine T5 (F9 (rC rfl (V8 rfl rfl) rfl rfl rfl (M0 ?_)))
    rw[show Txt.slice _ _ _=_ from yO (oS "shift, and go to state ") (Z4 (i:Nat))]
    exact Ai (G6 i) (by lia) (q σ (.refl σ))
   ·rw[show Txt.startswith _ _=_ from KT.starts_app _ _]at h;cases h
  ·rw[G0 c2]at zz ⊢
   have c3:z<0:=by lia
   rw[F7 c3]at zz ⊢
   clear P c3 h0 sh;obtain⟨i,rfl⟩:∃i:Nat,z= -(i:Int):=⟨(-z).toNat,by lia⟩
   rw[Int.neg_neg]at zz ⊢
   have ex:oS "reduce using rule "++Z4 i++oS " ("++aP G (G.rules.getD ((i:Int)).toNat oF).left++oS ")"=oS "reduce using rule "++(Z4 i++(oS " "++(oS "("++aP G (G.rules.getD ((i:Int)).toNat oF).left++oS ")"))):=by
    refine Str.ext2 ?_
    show cp _=cp _
    rw[U1,U1,U1,U1,U1,U1,U1,U1,U1,C6,C6,C6];rfl
   rw[ex]at zz ⊢
   generalize oS "("++aP G (G.rules.getD ((i:Int)).toNat oF).left++oS ")"=b at zz ⊢
   have z1:(Z4 i++(oS " "++b)).length<=33000:=by
    have:(oS "reduce using rule "++(Z4 i++(oS " "++b))).length<=33000:=zz
    rw[R7]at this
    exact A9 (aA _ _) this
   refine dA (t:=decide (oS "reduce using rule "++(Z4 i++(oS " "++b))=oS "accept")) (N3 rfl rfl rfl) (λ h=>(ng (dH (c:=114) rfl) (by decide) (D0 h)).elim) λ _=>O7 (iH (PD (J1 rfl (dO rfl) (p1 rfl) (cE ⟨_,rfl,λ h=>?_,λ _=>O7 (iH (PD (J1 rfl (dO rfl) (p1 rfl) (cE ⟨_,rfl,λ _=>qS ?_,λ h=>?_⟩))))⟩))))
   ·rw[show Txt.startswith _ _=_ from pP (c:=114) (d:=115) (dH rfl) rfl (by decide)]at h;cases h
   ·refine O6 (P2 rfl (T5 (F9 (v_sub (FU (rC rfl (V8 rfl rfl) rfl rfl rfl ⟨_,dO rfl,F9 (P2 rfl (M0 ?_))⟩))))))
    rw[show Txt.slice _ _ _=_ from yO (oS "reduce using rule ") (Z4 i++(oS " "++b))]
    refine s_split (by decide) (A9 z1 (by decide)) (λ p hp=>A9 (part_short hp) (A9 z1 (by decide))) (A9 (split_le _ _) (A9 (Nat.add_le_add_right z1 2) (by decide))) λ c hc=>P2 rfl ⟨_,I0 (k:=0) (PH.J7 ..) (V5 (SS (c:=32) (QY (RK i)) rfl r9)),M0 (Ai (G6 i) (by have:=w.rules;lia) ?_)⟩
    show Q (.int (0 - (i:Int))) _
    rw[Int.zero_sub];exact q _ (Ext.new hc _)
   ·rw[show Txt.startswith _ _=_ from KT.starts_app _ _]at h;cases h
theorem Fw{a:Addr}{l:List Str}(ha:σ a=some (.list (l.map .str)))(hl:l.length<=64)(q:∀c B9,Ext σ B9->σ c=none->B9 c=some (.list ((l.map cellOf).map wO))->Q (.ref c) B9):J9 W (n+1) (.ref 891) [.ref a] σ Q:=by
 refine P.fn wX 72 rfl (ρ:=[.ref a,.M7,.M7,.M7]) rfl (K1 (K7 (Led.start σ) rfl λ c aL L0=>?_))
 refine eZ (λ v=>[.ref a,.ref c,v 2,v 3]) (l:=l) (f:=.str) (λ pre _ B9=>Led σ B9 [(c,.list ((pre.map cellOf).map wO))] []) rfl rfl (qT (L0.ext _ _ ha) hl rfl) L0 ?_ λ u B9 L=>X8 rfl (q c B9 L.ext (L.new _ (.head _)) (L.get 0 rfl))
 intro pre x post u W9 R fN L hR
 have hZ:=P5 fN;delta hZ hp
 refine K1 (J1 rfl (dO rfl) (p1 rfl) (Js (N4 (T0 rfl (N9 (L.get 0 rfl) _) (F9 (dM (F9 (rC rfl rfl rfl rfl rfl (F9 (FU (rC rfl rfl rfl rfl rfl ⟨_,dO rfl,M0 (PN (M0 (M0 (aX 0 L rfl (by rw[A8,A8];lia) λ Y9 _ L3=>s_end (hR .next _ _ trivial ((L3.ext _ _ ha).trans (L0.ext _ _ ha).symm) ?_ rfl)))))⟩)))))))))))
 rw[Q5,Q5];exact L3
end
def GK(acc:List (List Str))(x:Str):List (List Str):=if x=oS "" then acc++[[]]else acc.dropLast++[acc.getLastD []++[Txt.strip x]]
def partsOf(l:List Str):List (List Str):=(l.foldl GK [[]]).filter λ p=>!p.isEmpty
theorem yP(acc:List (List Str)):GK acc (oS "")=acc++[[]]:=F7 rfl
theorem AE{acc:List (List Str)}{l:List Str}{x:Str}(h:x≠oS ""):GK (acc++[l]) x=acc++[l++[Txt.strip x]]:=by
 unfold GK
 rw[G0 h,List.dropLast_concat,List.getLastD_eq_getLast?,List.getLast?_concat];rfl
section
variable{W:Wd}(P:dR W){n:Nat}{σ:PH}{Q:PV->PH->Prop}
include P
theorem Fm{a:Addr}{l:List Str}(ha:σ a=some (.list (l.map .str)))(hl:l.length<=1000)(q:∀c B9 (ps:List (Addr×List Str)),Ext σ B9->B9 c=some (.list (ps.map λ p=>.ref p.1))->(∀p∈ps,B9 p.1=some (.list (p.2.map .str)))->ps.map (·.2)=partsOf l->Q (.ref c) B9):J9 W (n+1) (.ref 884) [.ref a] σ Q:=by
 refine P.fn wV 71 rfl (ρ:=[.ref a,.M7,.M7]) rfl (K1 (bQ (F9 (bQ (M0 λ c0 h0=>M0 λ c1 h1=>?_)))))
 have L0:Led σ _ ([]++[(c0,PO.list [])]++[(c1,.list [.ref c0])]) []:=((Led.start σ).alloc h0 (.list [])).alloc h1 _
 have L0:=L0.perm (L':=[(c1,.list [.ref c0]),(c0,PO.list [])]) (R':=[]) (.swap ..)
 generalize (σ.set c0 _).set c1 _=aL at L0 ⊢
 let I:List Str->PH->Prop:=λ pre B9=>∃(τ:PH) (qs:List (Addr×List Str)) (b:Addr) (x:List Str),Ext σ τ∧(∀p∈qs,τ p.1=some (.list (p.2.map .str)))∧qs.map (·.2)++[x]=pre.foldl GK [[]]∧qs.length<=pre.length∧x.length<=pre.length∧Led τ B9 [(c1,.list (qs.map (λ p=>PV.ref p.1)++[PV.ref b])),(b,.list (x.map .str))] []
 refine eZ (λ v=>[.ref a,.ref c1,v 2]) (l:=l) (f:=.str) (λ pre _ B9=>I pre B9) rfl rfl (qT (L0.ext _ _ ha) hl rfl) ⟨σ,[],c0,[],.refl _,λ _ h=>(nomatch h),rfl,D7 _,D7 _,L0⟩ ?_ ?_
 ·intro pre y post u W9 R fN hQ;intros hQ τ hZ;intros hZ qs Q0;intros Q0 b P4;intros P4 x fU;delta fU E hq e z1 z2 L;intro hR
  have hZ:=P5 fN;delta hZ hp
  have st:∀{B9},Ext τ B9->M9 aL (.ref a) B9:=λ E'=>(E' _ _ (E _ _ ha)).trans (L0.ext _ _ ha).symm
  have hI:∀{B9},(∃(τ:PH) (qs:List (Addr×List Str)) (b:Addr) (x:List Str),Ext σ τ∧(∀p∈qs,τ p.1=some (.list (p.2.map .str)))∧qs.map (·.2)++[x]=GK (pre.foldl GK [[]]) y∧qs.length<=pre.length+1∧x.length<=pre.length+1∧Led τ B9 [(c1,.list (qs.map (λ p=>PV.ref p.1)++[PV.ref b])),(b,.list (x.map .str))] [])->I (pre++[y]) B9:=λ h=>by
   show ∃(τ:_) (qs b x:_),_
   rw[K9,B0];exact h
  rw[<-e]at hI
  refine dA (t:=decide (y=oS "")) (N3 rfl rfl rfl) (λ h=>?_) λ h=>?_
  ·clear L0 P h0 ha fN post;obtain rfl:=D0 h
   rw[yP]at hI
   refine N4 (T0 rfl (N9 (L.get 0 rfl) _) (F9 (bQ (M0 λ b' Dg=>M0 ?_))))
   have L1:=L.alloc Dg (.list [])
   generalize W9.set b' _=Y9 at L1 ⊢
   refine aX 0 L1 rfl (by rw[B0,A8];show _+1<=_;lia) λ bM _ L2=>?_
   have L2:Led τ bM ([(c1,.list (qs.map (λ p=>PV.ref p.1)++[PV.ref b]++[PV.ref b'])),(b',.list [])]++[(b,.list (x.map .str))]) []:=L2.perm (.cons _ (.swap ..))
   refine L2.keep λ IF E1 L3 gB=>O7 (s_end (hR .next _ _ trivial (st (E1.trans L3.ext)) (hI ⟨IF,qs++[(b,x)],b',[],E.trans E1,T8 (λ p hp=>E1 _ _ (hq p hp)) (gB _ (.head _)),?_,?_,K3 _,?_⟩) rfl))
   ·exact C7 (·++[[]]) (Q5 ..)
   ·rw[B0];exact O1 z1
   ·rw[Q5];exact L3
  ·rw[AE (K6 h)]at hI
   refine N4 (T0 (I8 rfl (xD rfl) (DX (L.get 0 rfl))) (N9 (L.get 1 rfl) _) (F9 (J1 rfl (dO rfl) rfl (PN (M0 (aX 1 L rfl (by rw[A8];lia) λ Y9 _ L3=>O7 (s_end (hR .next _ _ trivial (st L3.ext) (hI ⟨τ,qs,b,x++[Txt.strip y],E,hq,rfl,Z6 z1,?_,?_⟩) rfl))))))))
   ·rw[B0];exact O1 z2
   ·rw[Q5];exact L3
 ·intro u W9 hQ;intros hQ τ hZ;intros hZ qs Q0;intros Q0 b P4;intros P4 x fU;delta fU E hq e z1 z2 L
  have Ll:∀p∈qs++[(b,x)],W9 p.1=some (.list (p.2.map .str)):=T8 (λ p hp=>L.ext _ _ (hq p hp)) (L.get 1 rfl)
  have h1:W9 c1=some (.list ((qs++[(b,x)]).map λ p=>PV.ref p.1)):=by rw[Q5];exact L.get 0 rfl
  have e:(qs++[(b,x)]).map (·.2)=l.foldl GK [[]]:=by rw[Q5];exact e
  have zz:(qs++[(b,x)]).length<=1001:=by rw[B0];exact O1 (A9 z1 hl)
  have E:=E.trans L.ext
  clear L hq
  generalize qs++[(b,x)]=ps at Ll h1 e zz
  refine W3 (jH (P2 rfl (lL (l:=ps) (f:=λ p=>.ref p.1) (g:=λ p=>.ref p.1) (p:=λ p=>!p.2.isEmpty) (qT h1 zz rfl) (iE h1) (λ p hp Y9 E3 R k1 k2=>⟨[.ref p.1],rfl,iD (P2 rfl (K7 (Led.start Y9) rfl λ cl bM L4=>⟨!(p.2.map PV.str).isEmpty,?_,?_⟩))⟩) λ Y9 E3 c hc=>?_)))
  ·show Option.map _ (Bk bM (.ref p.1) (.ref cl))=_
   rw[RJ ((E3.trans L4.ext) _ _ (Ll p hp)) (L4.get 0 rfl) (uU _)];rfl
  ·cases e5:p.2 with
   |nil=>rw[e5]at k2;exact k2 rfl _ L4.ext
   |cons y r=>rw[e5]at k1;exact P2 rfl (k1 rfl _ L4.ext)
  ·refine q c _ (ps.filter λ p=>!p.2.isEmpty) ((E.trans E3).trans (Ext.new hc _)) (PH.J7 ..) (λ p hp=>(E3.trans (Ext.new hc _)) _ _ (Ll p (J5.mp hp).1)) ?_
   unfold partsOf
   rw[<-e,List.filter_map];rfl
end
abbrev Ow:=List (Str×Addr×List Str)
structure Ni(σ:PH)(o:Addr)(os:Ow):Prop where
 l:σ o=some (.list (os.map λ p=>.tup [.str p.1,.ref p.2.1]))
 r:∀p∈os,σ p.2.1=some (.list (p.2.2.map .str))
theorem Ni.ext{σ B9:PH}(E:Ext σ B9){o:Addr}{os:Ow}(h:Ni σ o os):Ni B9 o os:=⟨E _ _ h.l,λ p hp=>E _ _ (h.r p hp)⟩
def Ut(G:Gr)(os:Ow):Prop:=∀i,i<G.rules.length->∃a,os[i]? =some (aP G (G.rules.getD i oF).left,a,(G.rules.getD i oF).right.map (aP G))
theorem join_cons{s x y:Str}{l:List Str}:Str.join s (x::y::l)=x++s++Str.join s (y::l):=rfl
def Kv(G:Gr)(i d:Nat):Str:=Z4 i++oS " "++uZ G i d
theorem Cy{G:Gr}{i d:Nat}:Str.join (oS " ") ([Z4 i,aP G (G.rules.getD i oF).left,oS ":"]++Bb G i d)=Kv G i d:=by
 have ne:Bb G i d≠[]:=List.append_ne_nil_of_right_ne_nil _ (sN _ _)
 unfold Kv uZ
 cases e:Bb G i d with
 |nil=>exact absurd e ne
 |cons x l=>
  show Str.join (oS " ") (Z4 i::aP G (G.rules.getD i oF).left::oS ":"::x::l)=_
  rw[join_cons,join_cons,join_cons]
  refine Str.ext2 ?_
  show cp _=cp _
  simp only[U1,C6];rfl
section
variable{W:Wd}{n:Nat}{σ:PH}{ρ:List PV}{e:PE}{K:Fl->List PV->PH->Prop}{Q:PV->PH->Prop}
theorem Cd{r:V0}{is:List Nat}(h:(wp W tb n e).v ρ σ λ x B4=>∃xs,x=.tup xs∧xs.length=is.length∧S8 W tb n r (aO is xs ρ) B4 K):S8 W tb n (.cons (.pK is e) r) ρ σ K:=h
theorem AZ{d:Nat}(h:d<=1000):DB (some (d:Int))=true:=by
 unfold DB
 rw[P8]
 exact⟨G6 d,Int.lt_of_lt_of_le (T7.mpr (hX h)) (by decide)⟩
theorem LO{C8:PH}{L R:List (Addr×PO)}(hL:Led C8 σ L R){o lo hi:PE}{a:Addr}{xs:List PV}{y z:PV}{l h:Option Int}(ho:pv σ ρ o=some (.ref a))(ha:σ a=some (.list xs))(hl:pv σ ρ lo=some y)(hh:pv σ ρ hi=some z)(bl:Ga y=some l)(bh:Ga z=some h)(nl:DB l=true)(nh:DB h=true)(hz:xs.length<=2^24)
  (k:∀c B9,Led C8 B9 (L++[(c,.list (fE xs l h))]) R->Q (.ref c) B9):(wp W tb n (.wQ o lo hi)).v ρ σ Q:=
 X5 o ho (X5 lo hl (X5 hi hh ⟨xs,l,h,.inl ha,bl,bh,nl,nh,hz,Ql hL k⟩))
end
section
variable{W:Wd}(P:dR W){n:Nat}{σ:PH}{o:Addr}{os:Ow}{G:Gr}{Q:PV->PH->Prop}(w:G.Wf)(sh:Short G)(hO:Ni σ o os)(oG:Ut G os)
include P w sh hO oG
theorem Fs{i d:Nat}(hi:i<G.rules.length)(hd:d<=(G.rules.getD i oF).right.length)(q:∀B9,Ext σ B9->Q (.str (Kv G i d)) B9):J9 W (n+1) (.ref 905) [.ref o,C0 i,C0 d] σ Q:=by
 refine A0 (oG i hi) λ a ho=>?_
 have ha:=hO.r _ (B5 ho)
 have hr:=w.len _ (B5 (Gr.tF w hi))
 have hZ:=LM (d:=d) w sh hi;delta hZ z1 z2
 have z0:Sz 32770 (Z4 i):=Sz.Z4 (G6 i) (by have:=w.rules;lia)
 rw[<-Cy]at q
 have ew:Bb G i d=((G.rules.getD i oF).right.map (aP G)).take d++oS "."::((G.rules.getD i oF).right.map (aP G)).drop d:=rfl
 have lw:((G.rules.getD i oF).right.map (aP G)).length<=3:=by rw[A8];exact hr
 have ld:d<=3:=A9 hd hr
 generalize (G.rules.getD i oF).right.map (aP G)=ws at ha ew lw ho
 have zl:=sh.nm (G.rules.getD i oF).left
 generalize aP G (G.rules.getD i oF).left=lf at ho q zl
 refine P.fn nA 74 rfl (ρ:=[.ref o,C0 i,C0 d,.M7,.M7]) rfl (WD (I8 rfl rfl (I0 hO.l (V5 ho))) rfl (W3 (T0 rfl (dO rfl) (F9 (O6 (O6 (O6 (bQ (F9 (H7 (p1 rfl) (CE (Tn (D1 hi (A9 w.rules (C3 rfl)))) (F9 (P2 rfl (F9 (P2 rfl (M0 λ c1 h1=>?_))))))))))))))))
 have L:Led σ _ [(c1,.list [.str (Z4 i),.str lf,.str (oS ":")])] []:=(Led.start σ).alloc h1 _
 generalize Kx:σ.set c1 _=aL
 rw[show σ.set c1 (.list [.str (Z4 i),.str lf,.str (oS ":")])=aL from Kx]at L
 have zw:(ws.map PV.str).length<=2^24:=by rw[A8];exact A9 lw (by decide)
 have e1:fE (ws.map PV.str) none (some (d:Int))=(ws.take d).map .str:=List.map_take.symm
 have e2:fE (ws.map PV.str) (some (d:Int)) none=(ws.drop d).map .str:=(C7 (List.drop d) (cB (l:=ws.map PV.str))).trans List.map_drop.symm
 have zt:(ws.take d).length<=3:=by rw[Y2];lia
 have zd:(ws.drop d).length<=3:=by rw[U7];lia
 refine LO L rfl (L.ext _ _ ha) rfl rfl rfl rfl rfl (AZ (A9 ld (by decide))) zw λ c2 W9 L=>?_
 rw[e1]at L
 refine gH L (L.get 0 rfl) (L.get 1 rfl) (by rw[A8];show 3+_<=_;lia) λ c3 Y9 L=>K7 L rfl λ c4 bM L=>gH L (L.get 2 rfl) (L.get 3 rfl) (by rw[B0,A8];show 3+_+1<=_;lia) λ c5 cI L=>LO L rfl (L.ext _ _ ha) rfl rfl rfl rfl (AZ (A9 ld (by decide))) rfl zw λ c6 eM L=>?_
 rw[e2]at L
 refine gH L (L.get 4 rfl) (L.get 5 rfl) (by rw[B0,B0,A8,A8];show 3+_+1+_<=_;lia) λ c7 eX L=>M0 ?_
 refine HS (l:=[Z4 i,lf,oS ":"]++Bb G i d) (k:=7) (b:=32770) ((L.get 6 rfl).trans ?_) (.lit rfl:Sz 1 _) (λ y hy=>?_) ?_ rfl λ _=>q _ L.ext
 ·rw[ew,C1,C1,I6,C6,C6];rfl
 ·clear L P c7 e1 e2 ew h1 hO ha hd hi ho hr ld lw oG os q sh w zd zt zw eX;clear L;rcases G9.mp hy with hy|hy
  ·clear L c6 eM;clear L;rcases F8.mp hy with rfl|hy
   ·exact z0
   clear L c5 z0 cI;clear L;rcases F8.mp hy with rfl|hy
   ·exact zl.mono (by decide)
   ·rewrite[D5.mp hy];exact .lit rfl
  ·exact(z2 y hy).mono (by decide)
 ·rw[B0];exact bW z1 3
end
theorem Mt(m s:Nat):decide (Int.fmod (Int.fdiv (m:Int) ((2^s:Nat):Int)) 2=1)=(m/2^s%2==1):=by
 rw[nZ _ (G6 _),Int.fmod_eq_emod_of_nonneg _ (by decide),<-zB];rfl
theorem YA{G:Gr}{m:Nat}(h:m<G.aS.length):full G m=(decide ((0:Int)<G.S6 m)&&decide ((G.rU m:Int)=((G.rules.getD (G.S6 m) oF).right.length:Nat))):=by
 have it:=Gr.it h
 have e:G.rules.getD (G.S6 m) oF=G.PT m:=rfl
 rw[e]
 unfold full
 congr 1
 ·rw[eO];lia
 ·rw[fZ,eU,P8,it.OH,eV]
  have:=it.dot
  lia
section
variable{W:Wd}(P:dR W){n:Nat}{σ:PH}{V g o pa:Addr}{B:Oc}{G:Gr}{S:List St}{os:Ow}{Q:PV->PH->Prop}(w:G.Wf)(sh:Short G)(hG:qA σ g G)(hV:Iu σ V g B G S)(au:yL G S)(hO:Ni σ o os)(oG:Ut G os)
include P w sh hG hV au hO oG
theorem NW{k:Nat}(hk:k<S.length)(hp:σ pa=some (.list (((S.getD k aB).items.map (zP G B.ms k)).map .str)))(q:∀B9,Ext σ B9->Q (.bool true) B9):J9 W (n+2) (.ref 910) [.ref V,.ref o,C0 k,.ref pa] σ Q:=by
 have hs:S.getD k aB∈S:=B5 (W5 aB hk)
 have zi:(S.getD k aB).items.length<=15:=by rw[au.it _ hs];exact(au.ks _ hs).close.len w
 refine P.fn mZ 75 rfl (ρ:=[.ref V,.ref o,C0 k,.ref pa,.M7,.M7,.M7,.M7,.M7,.M7,.M7,.M7]) rfl (P3 (D8 rfl (hV.ob.fld _)) (K1 (K7 (Led.start σ) rfl λ c aL L0=>?_)))
 have Th:=(hV.ia.at hk)
 refine eZ (λ v=>[.ref V,.ref o,C0 k,.ref pa,.ref g,.ref c,v 6,v 7,v 8,v 9,v 10,v 11]) (l:=(S.getD k aB).items) (f:=C0) (v:=.ref (B.As.getD k CQ).it) (λ pre _ B9=>Led σ B9 [(c,.list ((pre.map (zP G B.ms k)).map .str))] []) rfl (D8 (I8 (D8 (D8 rfl ((hV.ob.ext L0.ext).fld _)) ((hV.ia.ext L0.ext).ob.fld _)) rfl ((hV.ia.ext L0.ext).sub hk)) ((Th.ext L0.ext).ob.fld _)) (qT (Th.ext L0.ext).it zi rfl) L0 ?_ λ u W9 L=>?_
 ·intro pre m post u W9 R hl L hR
  have hZ:=P5 hl;delta hZ hz hm
  have lt:=au.lt hs m hm
  have it:=Gr.it lt
  have hi:=tE lt
  have st:∀{B9},Ext σ B9->M9 aL (.ref (B.As.getD k CQ).it) B9:=λ E=>(E _ _ Th.it).trans (L0.ext _ _ Th.it).symm
  have TP:=hG.ext L.ext
  refine Cd (dM (F9 (J1 rfl (TP.H2 "rule_of" 164 (by simp)) (p1 rfl) (lM (n:=n) P TP it (F9 (J1 rfl (TP.H2 "dot_of" 171 (by simp)) (p1 rfl) (CA (n:=n) P TP it (M0 ⟨_,rfl,rfl,K1 (H7 (I9 rfl (I9 rfl (p1 rfl))) (Fs (n:=n) P w sh (hO.ext L.ext) oG hi it.dot λ Y9 E3=>?_))⟩))))))))
  have L:=L.grow E3
  have V1:=hV.ext L.ext
  have TP:=hG.ext L.ext
  have i0:=hO.ext L.ext
  refine A0 (oG _ hi) λ a ho=>?_
  have y8:=i0.r _ (B5 ho)
  refine oT (λ O5 B9=>∃x y,O5=[.ref V,.ref o,C0 k,.ref pa,.ref g,.ref c,C0 m,C0 (G.S6 m),C0 (G.rU m),.str (zP G B.ms k m),x,y]∧Led σ B9 [(c,.list ((pre.map (zP G B.ms k)).map .str))] []) ?_ λ R1 yF=>uT (t:=full G m) ((jQ (N3 rfl rfl rfl) (N3 rfl (V8 (I8 (I8 rfl rfl (I0 i0.l (V5 ho))) rfl (fQ (k:=1) rfl)) (len_list y8 ((A8 _).trans (A8 _)))) rfl)).trans (C7 some (YA lt).symm)) ⟨λ h=>?_,λ h=>s_end (yF _ _ ⟨u 10,u 11,?_,L⟩)⟩
  ·intro _ bM hQ;intros hQ x y hZ;obtain rfl:=hZ.1;delta hZ hZ L
   refine N4 (aH 0 (x:=.str (zP G B.ms k m)) L rfl rfl rfl (by rw[A8,A8];lia) λ cI _ L5=>s_end (hR .next _ _ trivial (st L5.ext) ?_ rfl))
   show Led σ cI [(c,.list (((pre++[m]).map _).map .str))] _
   rw[Q5,Q5];exact L5
  ·have hZ:=XC hV.mi hk (JT au hs hm h);delta hZ k1 k2
   refine A0 (TP.names) λ na hZ=>?_;delta hZ n1 n2
   have z2:=GX (z:=EQ B.ms k (G.S6 m)) w sh
   have z1:=GZ w sh lt
   have s1:=z1.app (.lit rfl:Sz 3 (oS "  ["))
   have zt:=w.t5
   refine P3 (I8 (D8 rfl (V1.ob.fld _)) (oV (I9 rfl (p1 rfl))) ((bE V1.ma (bF [k,G.S6 m])).trans k2)) (K1 (jH (H7 (p1 (D8 rfl TP.tc)) (aQ (lL (l:=List.range G.tc) (f:=λ j:Nat=>.int j) (g:=λ s=>.str (aP G s)) (p:=λ s=>EQ B.ms k (G.S6 m)/2^s%2==1) (fJ (A9 zt (by decide))) (λ _ _=>trivial) (λ s hs bM E4 R k1 k2=>⟨[C0 s],rfl,iD (O6 (O6 (P2 rfl (rE rfl rfl (sY s (A9 (M8 (N1.mp hs)) (A9 zt (by decide))) ⟨Int.natCast_ne_zero.mpr (Nat.ne_of_gt (Z8 s)),P2 rfl ⟨by decide,P2 rfl ⟨EQ B.ms k (G.S6 m)/2^s%2==1,C7 some (Mt _ s),?_⟩⟩⟩)))))⟩) λ bM E4 c2 Bj=>?_)))))
   ·cases e:EQ B.ms k (G.S6 m)/2^s%2==1 with
    |true=>exact P2 (I8 (D8 rfl (U8 E4 n1)) rfl (W8 sD (E4 _ _ n2) (D1 (N1.mp hs) w.tc))) (k1 e _ (.refl _))
    |false=>exact k2 e _ (.refl _)
   ·have E5:=E4.trans (Ext.new Bj (.list (((List.range G.tc).filter λ s=>EQ B.ms k (G.S6 m)/2^s%2==1).map λ s=>.str (aP G s))))
    have fN:=PH.J7 bM c2 (.list (((List.range G.tc).filter λ s=>EQ B.ms k (G.S6 m)/2^s%2==1).map λ s=>.str (aP G s)))
    generalize bM.set c2 _=cI at E5 fN ⊢
    refine K1 (O6 (O6 (O6 (P2 rfl (P2 rfl (w_add z1 (.lit rfl:Sz 3 _) rfl (J1 rfl (dO rfl) (p1 rfl) (HS (l:=(X7 (EQ B.ms k (G.S6 m)) G.tc).map (aP G)) (by rw[fN,G2];rfl) (.lit rfl:Sz 2 _) z2.2 z2.1 rfl λ z3=>w_add s1 z3 rfl (P2 rfl (w_add (s1.app z3) (.lit rfl:Sz 2 _) rfl (s_end (yF _ _ ⟨C0 (EQ B.ms k (G.S6 m)),.ref c2,?_,L.grow E5⟩))))))))))))
    have e:zP G B.ms k m=NH G m++oS "  ["++Kk G (EQ B.ms k (G.S6 m))++oS "]":=F7 h
    rw[e];rfl
  ·have e:zP G B.ms k m=NH G m:=G0 (by rw[h];exact C5)
   rw[e];rfl
 ·have zl:((S.getD k aB).items.map (zP G B.ms k)).length<64:=by rw[A8];lia
  refine W3 (DP (H7 (p1 rfl) (SD (L.ext _ _ hp) zl λ c1 h1=>H7 (p1 rfl) (SD ((Ext.new h1 _) _ _ (L.get 0 rfl)) zl λ c2 h2=>⟨true,iQ ((Ext.new h2 _) _ _ (PH.J7 ..)) (PH.J7 ..) (uU _),q _ ((L.ext.trans (Ext.new h1 _)).trans (Ext.new h2 _))⟩))))
end
abbrev Z3:=Nat×Str×Int
def GH(G:Gr)(q:Z3):Str×Str:=(q.2.1,if q.1=1 then oS "["++bT G q.2.2++oS "]" else bT G q.2.2)
def Gz(G:Gr)(D:fP)(k t:Nat):List Z3:=if D.jY k t>0 then[(0,aP G t,D.jY k t)]else[]
def Jy(G:Gr)(D:fP)(k t:Nat):List Z3:=if D.jY k t<0 then[(0,aP G t,D.jY k t)]else[]
def Np(G:Gr)(D:fP)(k t:Nat):List Z3:=(gR (D.cl.map (·.2)) k t).map λ r:Nat=>(1,aP G t, -(r:Int))
def Ey(D:fP)(k:Nat):List Z3:=if D.df k=0 then[]else[(2,oS "$default", -(D.df k:Int))]
def UY(G:Gr)(D:fP)(k:Nat):List Z3:=(List.range G.tc).flatMap (Gz G D k)++((List.range G.tc).flatMap (λ t=>Jy G D k t++Np G D k t)++Ey D k)
theorem WH(G:Gr)(D:fP)(k:Nat):U9 G D k=(UY G D k).map (GH G):=by
 unfold U9 UY
 rw[C1,C1,eS,eS]
 congr 1
 ·exact C7 (List.flatMap · _) (funext λ t=>by unfold LD Gz;split<;>rfl)
 ·congr 1
  ·refine C7 (List.flatMap · _) (funext λ t=>?_)
   show PX G D k t++Ki G D k t=_
   rw[C1]
   congr 1
   ·unfold PX Jy;split<;>rfl
   ·unfold Ki Np;rw[G2];rfl
  ·unfold Bn Ey
   split<;>rfl
structure Yl(R:Nat)(q:Z3):Prop where
 c:Cell R q.2.2
 z:q.2.2≠0
 wo:Wo q.2.1
 df:decide (q.2.1=oS "$default")=(q.1==2)
section
variable{G:Gr}{τ:PH}{K k:Nat}{D:fP}(w:G.Wf)(nm:VF G)(h:DM G τ K D)(hk:k<K)
include w nm h hk
theorem VG:∀q∈UY G D k,Yl G.rules.length q:=by
 have at_:∀{t},t∈List.range G.tc->Wo (aP G t)∧decide (aP G t=oS "$default")=false:=λ ht=>let a:=nm.at (D1 (N1.mp ht) w.tc);⟨a.1,J8 a.2⟩
 have bit:∀(c:Prop) [Decidable c] (p:Z3),(c->Yl G.rules.length p)->∀x∈(if c then[p]else[]),Yl G.rules.length x:=λ c _ p h x hx=>by
  split at hx
  ·rewrite[D5.mp hx];exact h ‹_›
  ·nomatch hx
 intro q hq
 rcases G9.mp hq with hq|hq
 ·refine A0 (P6.mp hq) λ t hZ=>?_;delta hZ ht hq
  unfold Gz at hq
  exact bit (D.jY k t>0) (0,aP G t,D.jY k t) (λ c=>⟨h.cell hk (N1.mp ht),Int.ne_of_gt c,(at_ ht).1,(at_ ht).2⟩) q hq
 rcases G9.mp hq with hq|hq
 ·refine A0 (P6.mp hq) λ t hZ=>?_;delta hZ ht hq
  rcases G9.mp hq with hq|hq
  ·unfold Jy at hq
   exact bit (D.jY k t<0) (0,aP G t,D.jY k t) (λ c=>⟨h.cell hk (N1.mp ht),Int.ne_of_lt c,(at_ ht).1,(at_ ht).2⟩) q hq
  ·refine A0 (D2.mp hq) λ r hZ=>?_;generalize hZ.1=hr;clear hq;obtain rfl:=hZ.2;try clear hZ
   have hZ:=(h.cs.NB hk t).lt r hr;delta hZ r1 r2
   exact⟨Cell.neg r2,by show -(r:Int)≠0;lia,(at_ ht).1,(at_ ht).2⟩
 ·unfold Ey at hq
  split at hq
  ·nomatch hq
  ·rewrite[D5.mp hq]
   exact⟨Cell.neg (h.Yb hk),by show -(D.df k:Int)≠0;lia,VH (x:=oS "$default") (by decide) rfl,H3 rfl⟩
theorem Ix:∀q∈UY G D k,Of (GH G q):=λ q hq=>by
 have z:=VG w nm h hk q hq
 obtain⟨⟨c,c1,c2,c3,c4⟩,ls⟩:=Yj (G:=G) z.c z.z
 refine⟨z.wo,?_,?_⟩
 ·show Hd (if q.1=1 then _ else _)
  split
  ·exact Hd.app (Hd.app ⟨91,[],rfl,rfl⟩)
  ·exact Rc c1 c4
 ·show Ls (if q.1=1 then _ else _)
  split
  ·exact Ls.app Hp
  ·exact ls
end
def Hh(G:Gr)(D:fP)(k:Nat):List (Str×Int):=(((List.range G.tc).filter λ t=>decide (D.jY k t>0)).map λ t=>(aP G t,D.jY k t))++((List.range G.tc).filter λ t=>decide (D.jY k t<0)).map λ t=>(aP G t,D.jY k t)
def Bl(G:Gr)(D:fP)(k:Nat):List (Str×Int):=((List.range G.tc).filter λ t=>!decide (D.jY k t=0)).map λ t=>(aP G t,D.jY k t)
def Cs(G:Gr)(D:fP)(k:Nat):List (Str×Int):=(List.range G.tc).flatMap λ t=>(gR (D.cl.map (·.2)) k t).map λ r:Nat=>(aP G t, -(r:Int))
def Ob(D:fP)(k:Nat):List Int:=if D.df k=0 then[]else[-(D.df k:Int)]
theorem RA{α β:Type}(f:α->β)(p:α->Prop)[DecidablePred p]:∀l:List α,(l.flatMap λ x=>if p x then[f x]else[])=(l.filter λ x=>decide (p x)).map f
 |[]=>rfl
 |x::l=>by
  rw[Z7,RA f p l,W1]
  by_cases h:p x
  ·rw[F7 h,F7 (H3 h)];rfl
  ·rw[G0 h,G0 (by rw[J8 h];exact C5)];rfl
theorem Ou(G:Gr)(D:fP)(k:Nat):((UY G D k).filter (·.1==0)).map (·.2)=Hh G D k:=by
 unfold UY Hh
 rw[G7,G7,bY,bY,C1,C1,eS,eS]
 have e1:(List.filter (·.1==0) (Ey D k)).map (·.2)=[]:=by unfold Ey;split<;>rfl
 rw[e1,C9]
 congr 1
 ·refine Eq.trans ?_ (RA (λ t=>(aP G t,D.jY k t)) (λ t=>D.jY k t>0) _)
  refine C7 (List.flatMap · _) (funext λ t=>?_)
  show((if _ then _ else _:List Z3).filter _).map _=_
  split<;>rfl
 ·refine Eq.trans ?_ (RA (λ t=>(aP G t,D.jY k t)) (λ t=>D.jY k t<0) _)
  refine C7 (List.flatMap · _) (funext λ t=>?_)
  rw[G7,show(Np G D k t).filter (·.1==0)=[]from R3.mpr λ q hq=>by obtain⟨r,_,rfl⟩:=D2.mp hq;exact C5,C9]
  show((if _ then _ else _:List Z3).filter _).map _=_
  split<;>rfl
theorem Ot(G:Gr)(D:fP)(k:Nat):((UY G D k).filter (·.1==1)).map (·.2)=Cs G D k:=by
 unfold UY Cs
 rw[G7,G7,bY,bY,C1,C1,eS,eS]
 have e1:(List.filter (·.1==1) (Ey D k)).map (·.2)=[]:=by unfold Ey;split<;>rfl
 have e2:∀t,(List.filter (·.1==1) (Gz G D k t)).map (·.2)=[]:=λ t=>by unfold Gz;split<;>rfl
 have e3:∀t,List.filter (·.1==1) (Jy G D k t)=[]:=λ t=>by unfold Jy;split<;>rfl
 rw[e1,C9,show(λ t=>(List.filter (·.1==1) (Gz G D k t)).map (·.2))=λ _=>[]from funext e2,sL.mpr λ _ _=>rfl,X6]
 refine C7 (List.flatMap · _) (funext λ t=>?_)
 rw[G7,e3,X6,fC.mpr λ q hq=>by obtain⟨r,_,rfl⟩:=D2.mp hq;rfl]
 unfold Np
 rw[G2];rfl
theorem Os(G:Gr)(D:fP)(k:Nat):((UY G D k).filter (·.1==2)).map (·.2.2)=Ob D k:=by
 unfold UY Ob
 rw[G7,G7,bY,bY]
 have e2:∀t,List.filter (·.1==2) (Gz G D k t)=[]:=λ t=>by unfold Gz;split<;>rfl
 have e3:∀t,List.filter (·.1==2) (Jy G D k t++Np G D k t)=[]:=λ t=>by
  rw[G7,show(Np G D k t).filter (·.1==2)=[]from R3.mpr λ q hq=>by obtain⟨r,_,rfl⟩:=D2.mp hq;exact C5,C9]
  unfold Jy;split<;>rfl
 rw[sL.mpr λ t _=>e2 t,sL.mpr λ t _=>e3 t,X6,X6]
 unfold Ey
 split<;>rfl
theorem Br(G:Gr)(D:fP)(k:Nat):∀q∈UY G D k,q.1<=2:=by
 intro q hq
 have bit:∀(c:Prop) [Decidable c] (p:Z3),p.1<=2->∀x∈(if c then[p]else[]),x.1<=2:=λ c _ p h x hx=>by
  split at hx
  ·rewrite[D5.mp hx];exact h
  ·nomatch hx
 rcases G9.mp hq with hq|hq
 ·refine A0 (P6.mp hq) λ t hZ=>?_;delta hZ ht hq
  exact bit _ _ (K3 _) q hq
 rcases G9.mp hq with hq|hq
 ·refine A0 (P6.mp hq) λ t hZ=>?_;delta hZ ht hq
  rcases G9.mp hq with hq|hq
  ·exact bit _ _ (K3 _) q hq
  ·refine A0 (D2.mp hq) λ r hZ=>?_;generalize hZ.1=hr;clear hq;obtain rfl:=hZ.2;try clear hZ;exact cO 1
 ·unfold Ey at hq
  split at hq
  ·nomatch hq
  ·rewrite[D5.mp hq];exact D7 2
theorem ES:∀{l:List Z3},(∀q∈l,q.1<=2)->(l.filter (·.1==0)).length+(l.filter (·.1==1)).length+(l.filter (·.1==2)).length=l.length
 |[],_=>rfl
 |q::l,h=>by
  have ih:=ES λ x hx=>h x (.tail _ hx)
  have hq:=h q (.head _)
  obtain⟨n,q⟩:=q
  rcases (show n=0∨n=1∨n=2 by clear ih h;dsimp only at hq;lia)with rfl|rfl|rfl
  ·rw[J3 rfl,J4 C5,J4 C5,H5,H5];lia
  ·rw[J4 C5,J3 rfl,J4 C5,H5,H5];lia
  ·rw[J4 C5,J4 C5,J3 rfl,H5,H5];lia
theorem QA{α:Type}(f:Nat->Int)(g:Nat->α):∀l:List Nat,(((l.filter λ t=>decide (f t>0)).map g)++(l.filter λ t=>decide (f t<0)).map g).Perm ((l.filter λ t=>!decide (f t=0)).map g)
 |[]=>.nil
 |t::l=>by
  have ih:=QA f g l
  rcases Int.lt_trichotomy (f t) 0 with h|h|h
  ·rw[J4 (by simp;lia),J3 (by simpa using h),J3 (by simp;lia)]
   exact List.perm_middle.trans (ih.cons _)
  ·rw[J4 (by simp;lia),J4 (by simp;lia),J4 (by simp[h])]
   exact ih
  ·rw[J3 (by simpa using h),J4 (by simp;lia),J3 (by simp;lia)]
   exact ih.cons _
theorem Rz{G:Gr}(w:G.Wf)(nm:VF G)(D:fP)(k:Nat):oB (Hh G D k)=oB (Bl G D k)∧(Hh G D k).length<=5∧(Bl G D k).length<=5:=by
 have p:(Hh G D k).Perm (Bl G D k):=QA _ _ _
 have nd:(Bl G D k).Nodup:=X4.mpr (bK (λ ha hb ne e=>ne (nm.inj (D1 (N1.mp (J5.mp ha).1) w.tc) (D1 (N1.mp (J5.mp hb).1) w.tc) (qF e).1)) (List.nodup_range.filter _))
 have l:(Bl G D k).length<=5:=by
  unfold Bl
  rw[A8]
  exact A9 (H4 ..) (by rw[D9];exact w.t5)
 exact⟨LY p (p.nodup_iff.mpr nd) (p.length_eq▸l),p.length_eq▸l,l⟩
def Et(G:Gr)(k:Nat)(l:List Cf):List (Str×Int):=((l.filter λ c=>c.s==k).flatMap λ c=>(PQ c).map λ r:Nat=>(aP G c.t, -(r:Int))).foldl ad []
theorem Qh{G:Gr}{τ:PH}{K k:Nat}{D:fP}(w:G.Wf)(nm:VF G)(h:DM G τ K D)(hk:k<K):Et G k (D.cl.map (·.2))=Cs G D k:=by
 refine A0 ((h.cs.st (k:=k)).2 hk) λ m hZ=>?_;delta hZ h1 h2
 unfold Et Cs
 rw[h2]
 refine(CG.lst (f:=λ t (r:Nat)=>(aP G t, -(r:Int))) (λ t u r s ht hu e=>?_) (D7 _) h1).1.trans ?_
 ·have hZ:=qF e;delta hZ e1 e2
  exact⟨nm.inj (D1 ht w.tc) (D1 hu w.tc) e1,rA (Int.neg_inj.mp e2)⟩
 ·refine C7 (List.flatMap · _) (funext λ t=>?_)
  rw[JP,h2]
theorem We{d:Nat}(h:d<=2):d=0∨d=1∨d=2:=by lia
theorem pN(l:List (Str×Int)):(l.map kE).all fA=true:=by rw[cS];exact G3.mpr λ _ _=>rfl
theorem Cz{σ:PH}{a:Addr}{l:List (Str×Int)}{p:Str×Int}(h:σ a=some (.list (l.map kE))):QP σ (kE p) (.ref a)=some (decide (p∈l)):=by
 rw[BJ h]
 unfold DD
 rw[F7 ⟨rfl,pN l⟩,nP]
 refine C7 some ?_
 rw[fZ,jP,P8]
 constructor
 ·intro hQ;intros hQ y hZ;delta hZ hy e
  have e:(decide (y.1=p.1)&&(decide (y.2=p.2)&&true))=true:=e
  rw[Bool.and_true,W2,P8,P8]at e
  rw[<-kH e.1 e.2];exact hy
 ·exact λ h=>⟨p,h,KB (x:=kE p) rfl⟩
theorem Oq{σ:PH}{ρ:List PV}{e:PE}{r:Nat}(h:pv σ ρ e=some (C0 r)):pv σ ρ (.bin .Sub (.int 0) e)=some (.int (-(r:Int))):=jK rfl h (by show some (PV.int (0 - (r:Int)))=_;rw[Int.zero_sub])
theorem HZ{α:Type}[DecidableEq α]:∀{l acc:List α},(l.foldl ad acc).length<=acc.length+l.length
 |[],_=>D7 _
 |x::l,acc=>by
  have:=HZ (l:=l) (acc:=ad acc x)
  have h:(ad acc x).length<=acc.length+1:=by unfold ad;split;exact cO _;exact X0 B0
  rw[J0,H5];lia
section
variable{W:Wd}{n:Nat}{σ:PH}{ρ:List PV}{a b:PE}{Q:PV->PH->Prop}
theorem Ov{r:Nat}(q:Q (.int (-(r:Int))) σ):mO .Sub σ Q (.int 0) (C0 r):=by show Q (.int (0 - (r:Int))) σ;rw[Int.zero_sub];exact q
theorem v_and(h:(wp W tb n a).v ρ σ λ x B4=>∃t,zJ B4 x=some t∧match t with
  |true=>(wp W tb n b).v ρ B4 Q
  |false=>Q x B4):(wp W tb n (.and a b)).v ρ σ Q:=h
end
section
variable{W:Wd}(P:dR W){n:Nat}{σ:PH}{T:Addr}{A:Au}{G:Gr}{K k:Nat}{D:fP}{Q:PV->PH->Prop}(w:G.Wf)(nm:VF G)(hT:wJ σ T A G K D)
include P w nm hT
theorem UG(hK:K<=32768)(hk:k<K){ac:Addr}(Id:σ ac=some (.list ((U9 G D k).map wO)))(q:∀B9,Ext σ B9->Q (.bool true) B9):J9 W (n+2) (.ref 915) [.ref T,C0 k,.ref ac] σ Q:=by
 have sh:=nm.sz
 have zl:=(EC w hT.p hk).3
 have ok:=VG w nm hT.p hk
 have kd:=Br G D k
 have kl:=ES kd
 have f0:=Ou G D k
 have f1:=Ot G D k
 have f2:=Os G D k
 rw[WH,A8]at zl
 rw[WH,G2]at Id
 generalize UY G D k=zs at zl ok kd kl f0 f1 f2 Id
 have it:∀{B9},Ext σ B9->mF B9 (.ref ac) (zs.map λ q=>wO (GH G q)):=λ E=>qT (E _ _ Id) zl rfl
 have sn:∀{q:Z3},q∈zs->Txt.startswith (bT G q.2.2) (oS "[")=false:=λ hq=>by
  refine A0 ((Yj (G:=G) (ok _ hq).c (ok _ hq).z).c0) λ c hZ=>?_;delta hZ c1 hZ c3
  exact pP c1 rfl c3
 have sy:∀x:Str,Txt.startswith (oS "["++x++oS "]") (oS "[")=true:=λ x=>by rw[dQ];exact KT.starts_app _ _
 refine P.fn oJ 76 rfl (ρ:=[.ref T,C0 k,.ref ac,.M7,.M7,.M7,.M7,.M7,.M7,.M7,.M7,.M7,.M7]) rfl (K1 (gT (Led.start σ) rfl (it (.refl _)) (λ _ _=>rfl) (g:=λ q=>.str q.2.1) (λ q hq R hR=>P2 rfl hR) λ c3 aL E1 L1=>?_))
 have h3:=L1.get 0 rfl
 clear L1
 refine K1 (jH (P2 rfl (lL (l:=zs) (f:=λ q=>wO (GH G q)) (g:=λ q=>kE q.2) (p:=λ q=>q.1==0) (it E1) (iE (E1 _ _ Id)) (λ q hq Y9 E3 R k1 k2=>⟨[.str q.2.1,.str (GH G q).2],rfl,?_⟩) λ W9 E2 c4 Ug=>?_)))
 ·clear hK zl;obtain⟨d,x,z⟩:=q
  have o:=ok _ hq
  have hd:=kd _ hq
  have s0:=sn hq
  rcases We hd with rfl|rfl|rfl
  ·refine IL (zM (PD (J1 rfl (dO rfl) (p1 rfl) (cE ⟨false,C7 some s0,uT (t:=true) ((N3 rfl rfl rfl).trans (C7 (λ b=>some (!b)) o.df)) ?_⟩))))
   exact dM (F9 (P2 rfl (F9 (H7 (p1 rfl) (wB (n:=n) P w sh o.c o.z λ bM E4=>M0 (k1 rfl bM E4))))))
  ·exact IL (zM (PD (J1 rfl (dO rfl) (p1 rfl) (cE ⟨true,C7 some (sy _),k2 rfl _ (.refl _)⟩))))
  ·exact IL (zM (PD (J1 rfl (dO rfl) (p1 rfl) (cE ⟨false,C7 some s0,uT (t:=false) ((N3 rfl rfl rfl).trans (C7 (λ b=>some (!b)) o.df)) (k2 rfl _ (.refl _))⟩))))
 have E4:=E2.trans (Ext.new Ug (.list ((zs.filter λ q=>q.1==0).map λ q=>kE q.2)))
 have h4:_=some (PO.list ((Hh G D k).map kE)):=(PH.J7 W9 c4 (.list ((zs.filter λ q=>q.1==0).map λ q=>kE q.2))).trans (by rw[<-f0,G2];rfl)
 generalize W9.set c4 _=bM at E4 h4 ⊢
 clear Ug E2
 have h3:=E4 _ _ h3
 have E4:=E1.trans E4
 refine K1 (jH (P2 rfl (lL (l:=zs) (f:=λ q=>wO (GH G q)) (g:=λ q=>kE q.2) (p:=λ q=>q.1==1) (it E4) (iE (E4 _ _ Id)) (λ q hq Y9 E3 R k1 k2=>⟨[.str q.2.1,.str (GH G q).2],rfl,?_⟩) λ W9 E2 c5 EX=>?_)))
 ·clear hK zl;obtain⟨d,x,z⟩:=q
  have o:=ok _ hq
  have hd:=kd _ hq
  have s0:=sn hq
  rcases We hd with rfl|rfl|rfl
  ·exact PD (J1 rfl (dO rfl) (p1 rfl) (cE ⟨false,C7 some s0,k2 rfl _ (.refl _)⟩))
  ·refine PD (J1 rfl (dO rfl) (p1 rfl) (cE ⟨true,C7 some (sy _),dM (F9 (P2 rfl (F9 (T5 (F9 (rC rfl rfl (xD rfl) rfl rfl (M0 ?_)))))))⟩))
   show J9 W (n+1) (.ref 898) [.str (Txt.slice (oS "["++bT G z++oS "]") (some 1) (some (-1)))] Y9 _
   rw[Jm (oS "[") (bT G z) (oS "]") rfl rfl]
   exact wB (n:=n) P w sh o.c o.z λ bM E4=>M0 (k1 rfl bM E4)
  ·exact PD (J1 rfl (dO rfl) (p1 rfl) (cE ⟨false,C7 some s0,k2 rfl _ (.refl _)⟩))
 have E5:=E2.trans (Ext.new EX (.list ((zs.filter λ q=>q.1==1).map λ q=>kE q.2)))
 have h5:_=some (PO.list ((Cs G D k).map kE)):=(PH.J7 W9 c5 (.list ((zs.filter λ q=>q.1==1).map λ q=>kE q.2))).trans (by rw[<-f1,G2];rfl)
 generalize W9.set c5 _=cI at E5 h5 ⊢
 clear EX E2
 have h3:=E5 _ _ h3
 have h4:=E5 _ _ h4
 have E5:=E4.trans E5
 refine K1 (jH (P2 rfl (lL (l:=zs) (f:=λ q=>wO (GH G q)) (g:=λ q=>.int q.2.2) (p:=λ q=>q.1==2) (it E5) (iE (E5 _ _ Id)) (λ q hq Y9 E3 R k1 k2=>⟨[.str q.2.1,.str (GH G q).2],rfl,?_⟩) λ W9 E2 c6 Lj=>?_)))
 ·clear E3 hK zl;obtain⟨d,x,z⟩:=q
  have o:=ok _ hq
  have hd:=kd _ hq
  clear hq kd;rcases We hd with rfl|rfl|rfl
  ·exact uT (t:=false) ((N3 rfl rfl rfl).trans (C7 some o.df)) (k2 rfl _ (.refl _))
  ·exact uT (t:=false) ((N3 rfl rfl rfl).trans (C7 some o.df)) (k2 rfl _ (.refl _))
  ·exact uT (t:=true) ((N3 rfl rfl rfl).trans (C7 some o.df)) (H7 (p1 rfl) (wB (n:=n) P w sh o.c o.z λ bM E4=>k1 rfl bM E4))
 have E6:=E2.trans (Ext.new Lj (.list ((zs.filter λ q=>q.1==2).map λ q=>.int q.2.2)))
 have h6:_=some (PO.list ((Ob D k).map .int)):=(PH.J7 W9 c6 (.list ((zs.filter λ q=>q.1==2).map λ q=>.int q.2.2))).trans (by rw[<-f2,G2];rfl)
 generalize W9.set c6 _=eM at E6 h6 ⊢
 clear Lj E2
 have h3:=E6 _ _ h3
 have h4:=E6 _ _ h4
 have h5:=E6 _ _ h5
 have E6:=E5.trans E6
 clear E1 E4 E5 it sn sy ok
 have Rh:=hT.ext E6
 refine oT (λ O5 B9=>O5=[.ref T,C0 k,.ref ac,.ref c3,.ref c4,.ref c5,.ref c6,.M7,.M7,.M7,.M7,.M7,.M7]∧Ext eM B9) ?_ λ R1 yF=>iD (P2 rfl (v_ite (iD (J1 rfl (Rh.ob.H2 "default" rfl rfl) (p1 rfl) (HN (n:=n) P Rh hk (P2 rfl ⟨decide ((D.df k:Int)=0),rfl,?_⟩))))))
 ·intro _ eX hQ;clear E4 E5 kd sh zl W9;obtain rfl:=hQ.1;delta hQ hQ E7
  have h3:=E7 _ _ h3
  have h4:=E7 _ _ h4
  have h5:=E7 _ _ h5
  have h6:=E7 _ _ h6
  have E7:=E6.trans E7
  have TN:=hT.ext E7
  clear Rh E6 hT Id
  have zt:=w.t5
  have hZ:=Rz w nm D k;delta hZ d1 d2 d3
  refine K1 (K7 (Led.start eX) rfl λ c7 qC L=>Z2 (H7 (p1 (D8 rfl ((TN.ob.ext L.ext).fld _))) (aQ (Z1 (λ v=>[.ref T,C0 k,.ref ac,.ref c3,.ref c4,.ref c5,.ref c6,.ref c7,v 8,v 9,v 10,v 11,v 12]) (λ pre _ B9=>Led eX B9 [(c7,.list (((pre.filter λ t=>!decide (D.jY k t=0)).map λ t=>(aP G t,D.jY k t)).map kE))] []) rfl (fJ (A9 zt (by decide))) L ?_ λ u IG L=>?_))))
  ·intro pre t post u IG R hl L hR
   have hZ:=P9 hl;delta hZ hp ht
   have hz:((pre.filter λ t=>!decide (D.jY k t=0)).map λ t=>(aP G t,D.jY k t)).length<=5:=by
    rw[A8]
    exact A9 (H4 ..) (by rw[hp,D9];lia)
   have Nx:=TN.ext L.ext
   rw[G7,C1]at hR
   generalize (pre.filter λ t=>!decide (D.jY k t=0)).map (λ t=>(aP G t,D.jY k t))=acc at L hR hz
   refine iH (iD (J1 rfl (Nx.ob.H2 "explicit" rfl rfl) (I9 rfl (p1 rfl)) (NZ (n:=n) P Nx hk ht (P2 rfl ⟨!decide (D.jY k t=0),rfl,λ h=>?_,λ h=>?_⟩))))
   ·rw[show[t].filter (λ t=>!decide (D.jY k t=0))=[t]from J3 h]at hR
    refine N4 (T0 rfl (N9 (L.get 0 rfl) _) (F9 (dM (F9 (P2 (I8 (D8 rfl (Nx.ob.fld _)) rfl (W8 sD Nx.nm (D1 ht w.tc))) (F9 (J1 rfl (Nx.ob.H2 "explicit" rfl rfl) (I9 rfl (p1 rfl)) (NZ (n:=n) P Nx hk ht (M0 (M0 (aX 0 L rfl (by rw[A8];lia) λ iW _ L2=>O7 (s_end (hR .next _ _ trivial trivial ?_ rfl)))))))))))))
    show Led eX iW [(c7,.list (List.map kE (acc++[(aP G t,D.jY k t)])))] _
    rw[Q5];exact L2
   ·rw[show[t].filter (λ t=>!decide (D.jY k t=0))=[]from J4 (by rw[h];exact C5)]at hR
    exact O7 (s_end (hR .next _ _ trivial trivial (by rw[nO,C9];exact L) rfl))
  have L:Led eX IG [(c7,.list ((Bl G D k).map kE))] []:=L
  refine A0 ((TN.p.cs.st (k:=k)).2 hk) λ m hZ=>?_;delta hZ m1 m2
  have bd:=(TN.p.cs.st (k:=k)).1
  have lo:=Qh w nm TN.p hk
  have zc:D.cl.length<=2^24:=by have:=TN.p.c1;lia
  have zd:∀l:List (Addr×Cf),(∀c∈(l.map (·.2)).filter (λ c=>c.s==k),Us G c.rs)->((l.map (·.2)).filter λ c=>c.s==k).length<=80->(Et G k (l.map (·.2))).length<=1200:=λ l h1 h2=>by
   refine A9 HZ (A9 (X0 (Y4 _)) ?_)
   refine A9 ?_ (fB 15 h2)
   generalize (l.map (·.2)).filter (λ c=>c.s==k)=L at h1
   clear h2
   clear E6 zt W9;induction L with
   |nil=>exact K3 _
   |cons c L ih=>
    rw[Z7,B0,H5,Nat.mul_succ,aF]
    exact S0 (ih λ x hx=>h1 x (.tail _ hx)) (by rw[A8];exact A9 (H4 ..) (h1 c (.head _)).z)
  refine K1 (K7 L rfl λ c9 iW L=>?_)
  have Az:=L.ext
  refine eZ (λ v=>[.ref T,C0 k,.ref ac,.ref c3,.ref c4,.ref c5,.ref c6,.ref c7,v 8,.ref c9,v 10,v 11,v 12]) (l:=D.cl) (f:=λ p=>.ref p.1) (v:=.ref A.cl) (λ pre _ B9=>Led eX B9 [(c7,.list ((Bl G D k).map kE)),(c9,.list ((Et G k (pre.map (·.2))).map kE))] []) rfl (D8 rfl ((TN.ob.ext L.ext).fld _)) (V6 (L.ext _ _ TN.cl) (by rw[A8];exact zc)) L ?_ λ u oA L=>?_
  ·intro pre p post u oA R hl L hR
   have hp:p∈D.cl:=hl▸G4 _ (.head _)
   have st:∀{B9},Ext eX B9->M9 iW (.ref A.cl) B9:=λ E=>(E _ _ TN.cl).trans (Az _ _ TN.cl).symm
   refine A0 (TN.p.c2 p hp) λ _ O=>?_
   have hZ:=bd p.2 (J2 hp);delta hZ hZ ht hb
   have sb:((pre.map (·.2)).filter λ c=>c.s==k).Sublist m:=by rw[<-m2,hl,C1,G7];exact qZ ..
   have za:=zd pre (λ c hc=>(m1.mem c (sb.subset hc)).3) (A9 sb.length_le (A9 m1.len (fB 16 w.t5)))
   have e1:Et G k ((pre++[p]).map (·.2))=if(p.2.s==k)=true then((PQ p.2).map λ r:Nat=>(aP G p.2.t, -(r:Int))).foldl ad (Et G k (pre.map (·.2)))else Et G k (pre.map (·.2)):=by
    unfold Et
    rw[C1,G7,Q7,K9]
    by_cases c:(p.2.s==k)=true
    ·rw[F7 c,show List.filter (λ c:Cf=>c.s==k) (List.map (·.2) [p])=[p.2]from J3 c,Q2]
    ·rw[G0 c,show List.filter (λ c:Cf=>c.s==k) (List.map (·.2) [p])=[]from J4 c];rfl
   rw[e1]at hR
   generalize Et G k (pre.map (·.2))=acc at L hR za
   let J:List Nat->List (Str×Int):=λ p2=>if(p.2.s==k)=true then((p2.filter (vM p.2.ch)).map λ r:Nat=>(aP G p.2.t, -(r:Int))).foldl ad acc else acc
   have j0:J []=acc:=by show(if _ then _ else _)=_;split<;>rfl
   refine eZ (λ v=>[.ref T,C0 k,.ref ac,.ref c3,.ref c4,.ref c5,.ref c6,.ref c7,v 8,.ref c9,.ref p.1,v 11,v 12]) (l:=p.2.rs) (f:=C0) (λ p2 _ B9=>Led eX B9 [(c7,.list ((Bl G D k).map kE)),(c9,.list ((J p2).map kE))] []) rfl (D8 rfl ((O.ext L.ext).fld _)) (rO (by rw[A8];exact A9 hb.z (by decide))) (by rw[j0];exact L) ?_ λ u B9 L=>s_end (hR .next _ _ trivial (st L.ext) L rfl)
   intro p2 r iI u2 rB R2 fN L bS
   have zj:(J p2).length<=1215:=by
    show(if _ then _ else _:List (Str×Int)).length<=_
    split
    ·refine A9 HZ ?_
     rw[A8]
     have:(p2.filter (vM p.2.ch)).length<=p.2.rs.length:=A9 (H4 ..) (by rw[fN,B0];exact J6 _ _)
     have:=hb.z
     lia
    ·lia
   have j1:J (p2++[r])=if((p.2.s==k)&&vM p.2.ch r)=true then ad (J p2) (aP G p.2.t, -(r:Int))else J p2:=by
    show(if _ then _ else _:List (Str×Int))=_
    by_cases c:(p.2.s==k)=true
    ·rw[F7 c,c,Bool.true_and,G7,C1,K9]
     have ej:J p2=((p2.filter (vM p.2.ch)).map λ r:Nat=>(aP G p.2.t, -(r:Int))).foldl ad acc:=F7 c
     rw[<-ej]
     by_cases c2:vM p.2.ch r=true
     ·rw[F7 c2,show[r].filter (vM p.2.ch)=[r]from J3 c2];rfl
     ·rw[G0 c2,show[r].filter (vM p.2.ch)=[]from J4 c2];rfl
    ·rw[G0 c,G0 (by rw[W2];exact λ h=>c h.1)]
     exact(G0 c).symm
   rw[j1]at bS
   generalize J p2=acc at L bS zj
   have f9:=TN.ext L.ext
   have OL:=O.ext L.ext
   refine P3 (x:=kE (aP G p.2.t, -(r:Int))) (oV (I9 (I8 (D8 rfl (f9.ob.fld _)) (D8 rfl (OL.fld _)) (W8 sD f9.nm (D1 ht w.tc))) (p1 (Oq rfl)))) ?_
   refine dA (t:=(p.2.s==k)&&(vM p.2.ch r&&!decide ((aP G p.2.t, -(r:Int))∈acc))) (jQ ((N3 (D8 rfl (OL.fld _)) rfl rfl).trans (C7 some (zB _ _))) (jQ (N3 (D8 rfl (OL.fld _)) (Oq rfl) rfl) (N3 rfl rfl (by show Option.map _ (QP rB (kE _) (.ref c9))=_;rw[Cz (L.get 1 rfl)];rfl)))) (λ h=>?_) λ h=>O7 (s_end (bS .next _ _ trivial trivial ?_ rfl))
   ·have hZ:=F0.mp h;delta hZ g1 g2
    have hZ:=F0.mp g2;delta hZ g2 g3
    rw[F7 (by rw[g1,g2];rfl),CL (K6 (WX g3))]at bS
    refine N4 (aH 1 (x:=kE (aP G p.2.t, -(r:Int))) L rfl rfl rfl (by rw[A8];lia) λ FS _ L2=>O7 (s_end (bS .next _ _ trivial trivial ?_ rfl)))
    show Led eX FS [_,(c9,.list (List.map kE (acc++[_])))] _
    rw[Q5];exact L2
   ·by_cases c:((p.2.s==k)&&vM p.2.ch r)=true
    ·rw[F7 c]
     rw[<-Bool.and_assoc,c,Bool.true_and]at h
     rw[CK (by simpa using h)];exact L
    ·rw[G0 c];exact L
  ·rw[lo]at L
   have h3:=L.ext _ _ h3
   have h4:=L.ext _ _ h4
   have h5:=L.ext _ _ h5
   have h6:=L.ext _ _ h6
   have h7:=L.get 0 rfl
   have h9:=L.get 1 rfl
   have dg:=E7.trans L.ext
   have Yv:(Cs G D k).length<64:=by
    have:=VE (f:=λ t=>(gR (D.cl.map (·.2)) k t).map λ r:Nat=>(aP G t, -(r:Int))) (c:=6) (λ t=>by rw[A8];exact(TN.p.cs.NB hk t).len w) (List.range G.tc)
    rw[D9]at this
    exact H8 this (by lia)
   have l0:(Hh G D k).length=(zs.filter (·.1==0)).length:=by rw[<-f0,A8]
   have l1:(Cs G D k).length=(zs.filter (·.1==1)).length:=by rw[<-f1,A8]
   have l2:(Ob D k).length=(zs.filter (·.1==2)).length:=by rw[<-f2,A8]
   have ll:∀a b c d:Nat,a+b+c=d->decide (((a:Int)+(b:Int))+(c:Int)=(d:Int))=true:=λ a b c d h=>H3 (by lia)
   clear L
   refine W3 (v_and (DP (H7 (p1 rfl) (pY h4 (H8 d2 (by decide)) λ a1 b1=>H7 (p1 rfl) (pY (Ext.new b1 _ _ _ h7) (H8 d3 (by decide)) λ a2 b2=>⟨true,iQ (Ext.new b2 _ _ _ (PH.J7 ..)) (by rw[d1];exact PH.J7 ..) (pN _),true,rfl,?_⟩)))))
   have Ay:=(Ext.new b1 (.list ((oB (Hh G D k)).map kE))).trans (Ext.new b2 (.list ((oB (Bl G D k)).map kE)))
   generalize (oA.set a1 _).set a2 _=rB at Ay ⊢
   refine v_and (DP (H7 (p1 rfl) (pY (Ay _ _ h5) Yv λ a3 b3=>H7 (p1 rfl) (pY (Ext.new b3 _ _ _ (Ay _ _ h9)) Yv λ a4 b4=>⟨true,iQ (Ext.new b4 _ _ _ (PH.J7 ..)) (PH.J7 ..) (pN _),true,rfl,?_⟩))))
   have Oj:=Ay.trans ((Ext.new b3 (.list ((oB (Cs G D k)).map kE))).trans (Ext.new b4 (.list ((oB (Cs G D k)).map kE))))
   generalize (rB.set a3 _).set a4 _=FS at Oj ⊢
   exact P2 (WT (jK (jK (V8 rfl (len_list (Oj _ _ h4) ((A8 _).trans l0))) (V8 rfl (len_list (Oj _ _ h5) ((A8 _).trans l1))) rfl) (V8 rfl (len_list (Oj _ _ h6) ((A8 _).trans l2))) rfl) (V8 rfl (len_list (Oj _ _ h3) (A8 _))) (C7 some (ll _ _ _ _ kl))) (q _ (dg.trans Oj))
 ·clear E4 E5 E6 f0 f1 f2 h3 h4 h5 hK hT Id kd kl nm q sh w zl W9;cases e:decide ((D.df k:Int)=0)with
  |true=>
   have e6:Ob D k=[]:=F7 (qH.mp (D0 e))
   rw[e6]at h6
   exact K7 (Led.start eM) rfl λ c7 eX L=>⟨false,by show Option.map _ (Bk eX (.ref c6) (.ref c7))=_;rw[iQ (L.ext _ _ h6) (L.get 0 rfl) rfl];rfl,(λ h=>nomatch h),λ _=>s_end (yF _ _ ⟨rfl,L.ext⟩)⟩
  |false=>
   have e6:Ob D k=[-(D.df k:Int)]:=G0 λ h=>K6 e (C7 Int.ofNat h)
   have h6:eM c6=some (.list [.int (-(D.df k:Int))]):=by rw[e6]at h6;exact h6
   exact bQ (F9 (O6 (P2 rfl (J1 rfl (Rh.ob.H2 "default" rfl rfl) (p1 rfl) (HN (n:=n) P Rh hk (Ov (M0 λ c7 Re=>⟨false,by show Option.map _ (Bk _ (.ref c6) (.ref c7))=_;rw[iQ (Ext.new Re _ _ _ h6) (PH.J7 ..) rfl];rfl,(λ h=>nomatch h),λ _=>s_end (yF _ _ ⟨rfl,Ext.new Re _⟩)⟩)))))))
end
def gx(p:Str×Int):Str×Str:=(p.1,oS "go to state "++Z4 p.2)
def HE(G:Gr)(D:fP)(k:Nat):List (Str×Int):=((List.range (G.names.length - G.tc)).filter λ i=>decide (D.goal k (G.tc+i)>=0)).map λ i=>(aP G (G.tc+i),D.goal k (G.tc+i))
theorem XY(G:Gr)(D:fP)(k:Nat):iP G D k=(HE G D k).map gx:=by
 unfold HE
 rw[G2]
 exact RA (gx∘λ i=>(aP G (G.tc+i),D.goal k (G.tc+i))) (λ i=>D.goal k (G.tc+i)>=0) _
def linesOf(l:List (Str×Str)):List Str:=l.map (IV (lQ l))
def Ab(r g:List (Str×Str)):List Bool:=(if r=[]then[]else[true])++(if g=[]then[]else[false])
theorem BN:∀{l:List Str} (acc:List (List Str)) (x:List Str),(∀y∈l,y≠oS "")->l.foldl GK (acc++[x])=acc++[x++l.map Txt.strip]
 |[],acc,x,_=>by rw[nO,C9];rfl
 |y::l,acc,x,h=>by
  rw[J0,AE (h y (.head _)),BN acc _ λ z hz=>h z (.tail _ hz),I6,C6];rfl
theorem fold_add{a p:List Str}{A:List (List Str)}{x:List Str}(h:a.foldl GK [[]]=A++[x])(hp:∀y∈p,y≠oS ""):(jB a p).foldl GK [[]]=A++[x]++(if p=[]then[]else[p.map Txt.strip]):=by
 unfold jB
 by_cases c:p=[]
 ·rw[F7 c,F7 c,C9,h]
 ·rw[G0 c,G0 c,K9,K9,h]
  show p.foldl GK (GK (A++[x]) (oS ""))=_
  rw[yP,BN (A++[x]) [] hp,X6]
theorem BA{x:Str}(h:∃c,(cp x)[0]? =some c):x≠oS "":=λ e=>by
 intros h c h
 rw[e]at h;cases h
theorem lS{l:List (Str×Str)}(h:∀p∈l,Of p):(Z0 l).map Txt.strip=linesOf l∧(∀y∈Z0 l,y≠oS "")∧(linesOf l).map cellOf=l:=by
 refine⟨?_,λ y hy=>?_,?_⟩
 ·unfold Z0 linesOf
  rw[G2]
  exact P1 λ p hp=>IT (h p hp)
 ·refine A0 (D2.mp hy) λ p hZ=>?_;clear hy;obtain rfl:=hZ.2;try clear hZ
  exact BA ⟨32,dH (dH (dH rfl))⟩
 ·unfold linesOf
  rw[G2]
  exact(P1 λ p hp=>ZN (h p hp)).trans (gL _)
section
variable{G:Gr}{S:List St}{τ:PH}{k:Nat}{D:fP}(w:G.Wf)(nm:VF G)(h:DM G τ S.length D)(au:yL G S)(hk:k<S.length)
include w nm h au hk
omit au in
theorem PR:(∀p∈U9 G D k,Of p∧Txt.startswith p.2 (oS "go to state ")=false)∧(∀p∈iP G D k,Of p):=by
 refine⟨λ p hp=>?_,λ p hp=>?_⟩
 ·rw[WH]at hp
  refine A0 (D2.mp hp) λ q hZ=>?_;generalize hZ.1=hq;clear hp;obtain rfl:=hZ.2;try clear hZ
  refine⟨Ix w nm h hk q hq,?_⟩
  have z:=VG w nm h hk q hq
  obtain⟨⟨c,c1,c2,c3,c4⟩,ls⟩:=Yj (G:=G) z.c z.z
  show Txt.startswith (if q.1=1 then _ else _) _=false
  split
  ·exact pP (dH (dH (c:=91) rfl)) rfl (by decide)
  ·exact pP c1 rfl c2
 ·rw[XY]at hp
  refine A0 (D2.mp hp) λ q hZ=>?_;generalize hZ.1=hq;clear h hk hp w τ;obtain rfl:=hZ.2;try clear hZ
  refine A0 (D2.mp hq) λ i hZ=>?_;generalize hZ.1=hi;clear S hq;obtain rfl:=hZ.2;try clear hZ
  have hZ:=J5.mp hi;delta hZ h1 h2
  have hi:=N1.mp h1
  have h2:=D0 h2
  refine A0 (cC h2) λ n en=>?_
  refine⟨(nm.at (by lia)).1,Hd.app ⟨103,_,rfl,rfl⟩,Ls.app ?_⟩
  show Ls (Z4 (D.goal k (G.tc+i)))
  rw[en];exact(yM n).ls
theorem WO{ms:List (PK×PV)}:partsOf (SP G D S ms k)=[DH k]::((S.getD k aB).items.map (zP G ms k))::(Ab (U9 G D k) (iP G D k)).map λ b=>if b=true then linesOf (U9 G D k)else linesOf (iP G D k):=by
 have hZ:=PR w nm h hk;delta hZ r1 r2
 have hZ:=lS λ p hp=>(r1 p hp).1;delta hZ a1 a2
 have hZ:=lS r2;delta hZ b1 b2
 have hs:S.getD k aB∈S:=B5 (W5 aB hk)
 have u9:(yD G S ms k).map Txt.strip=(S.getD k aB).items.map (zP G ms k):=by
  unfold yD
  rw[G2]
  refine P1 λ m hm=>?_
  have hZ:=Jo (ms:=ms) (k:=k) w nm (au.lt hs m hm);delta hZ s1 s2
  exact pO (λ c hc=>by rewrite[bJ (n:=4) (a:=32) hc];rfl) s1 s2
 have nU:∀y∈yD G S ms k,y≠oS "":=λ y hy=>by
  refine A0 (D2.mp hy) λ m hZ=>?_;clear hy;obtain rfl:=hZ.2;try clear hZ
  exact BA ⟨32,dH rfl⟩
 have d9:DH k≠oS "":=BA ⟨83,dH rfl⟩
 have hd2:Txt.strip (DH k)=DH k:=LX (Hd.app ⟨83,_,rfl,rfl⟩) (Ls.app (yM k).ls)
 have base:([DH k,oS ""]++yD G S ms k).foldl GK [[]]=[[DH k]]++[(S.getD k aB).items.map (zP G ms k)]:=by
  rw[K9]
  show(yD G S ms k).foldl GK (GK (GK ([]++[[]]) (DH k)) (oS ""))=_
  rw[AE d9,yP,hd2,BN _ _ nU,u9];rfl
 have v9:(S.getD k aB).items≠[]:=by
  rw[au.it _ hs]
  unfold Gr.close
  have:=(au.kp _ hs).2
  exact List.append_ne_nil_of_left_ne_nil (λ e=>this (kL (by rw[<-(N8 _).length_eq,e];rfl))) _
 have e1:∀l:List (Str×Str),Z0 l=[]↔l=[]:=λ l=>mV
 have step:=fold_add base a2
 have Ph:(jB (jB ([DH k,oS ""]++yD G S ms k) (Z0 (U9 G D k))) (Z0 (iP G D k))).foldl GK [[]]=[[DH k]]++[(S.getD k aB).items.map (zP G ms k)]++(if U9 G D k=[]then[]else[linesOf (U9 G D k)])++if iP G D k=[]then[]else[linesOf (iP G D k)]:=by
  rw[a1]at step
  by_cases c:U9 G D k=[]
  ·rw[F7 ((e1 _).mpr c),C9]at step
   have:=fold_add step b2
   rw[this,F7 c,C9,b1]
   refine C7 _ ?_
   by_cases c2:iP G D k=[]
   ·rw[F7 c2,F7 ((e1 _).mpr c2)]
   ·rw[G0 c2,G0 λ e=>c2 ((e1 _).mp e)]
  ·rw[G0 λ e=>c ((e1 _).mp e)]at step
   have:=fold_add step b2
   rw[this,G0 c,b1]
   refine C7 _ ?_
   by_cases c2:iP G D k=[]
   ·rw[F7 c2,F7 ((e1 _).mpr c2)]
   ·rw[G0 c2,G0 λ e=>c2 ((e1 _).mp e)]
 unfold partsOf SP
 rw[K9,Ph]
 show List.filter _ (GK _ (oS ""))=_
 rw[yP,G7,G7,G7,G7]
 have ne:∀l:List (Str×Str),l≠[]->(!(linesOf l).isEmpty)=true:=λ l h=>by cases l with|nil=>exact absurd rfl h|cons=>rfl
 have f1:∀(l:List (Str×Str)),List.filter (λ p=>!List.isEmpty p) (if l=[]then[]else[linesOf l])=if l=[]then[]else[linesOf l]:=λ l=>by
  by_cases c:l=[]
  ·rw[F7 c];rfl
  ·rw[G0 c];exact J3 (p:=λ p:List Str=>!p.isEmpty) (ne l c)
 rw[f1,f1]
 have f2:List.filter (λ p=>!List.isEmpty p) [(S.getD k aB).items.map (zP G ms k)]=[(S.getD k aB).items.map (zP G ms k)]:=J3 (p:=λ p:List Str=>!p.isEmpty) (by
  cases e:(S.getD k aB).items with
  |nil=>exact absurd e v9
  |cons=>rfl)
 rw[f2]
 unfold Ab
 show([DH k]::_::_)++_++[]=_
 rw[C9,C1]
 refine C7 (List.cons _<|List.cons _ ·) ?_
 by_cases c:U9 G D k=[]<;>by_cases c2:iP G D k=[]
 ·rw[F7 c,F7 c2,F7 c,F7 c2];rfl
 ·rw[F7 c,G0 c2,F7 c,G0 c2];rfl
 ·rw[G0 c,F7 c2,G0 c,F7 c2];rfl
 ·rw[G0 c,G0 c2,G0 c,G0 c2];rfl
end
section
variable{W:Wd}{n:Nat}{σ:PH}{ρ:List PV}{r b:V0}{K:Fl->List PV->PH->Prop}{e:PE}{v:PV}{B:Bool->PH->Prop}
theorem Dl{is:List Nat}(h:(wp W tb n e).v ρ σ λ v B4=>∃xs,mF B4 v xs∧jW (M9 B4 v) (λ x ρ σ R=>∃ys,x=.tup ys∧ys.length=is.length∧S8 W tb n b (aO is ys ρ) σ R) xs ρ B4 (zQ W n r K)):S8 W tb n (.cons (.rT is e b) r) ρ σ K:=h
theorem QX(F:(Nat->PV)->List PV){α:Type}{l:List α}{f:α->List PV}{is:List Nat}{B4:PH}(I:List α->(Nat->PV)->PH->Prop)(HC:ρ=F (lo ρ))(hv:mF B4 v (l.map λ x=>.tup (f x)))(hl:∀x,(f x).length=is.length)(h0:I [] (lo ρ) B4)
  (hs:∀pre x post u B9 (R:Fl->List PV->PH->Prop),l=pre++x::post->I pre u B9->(∀fl O5 B9,fl.go->M9 B4 v B9->I (pre++[x]) (lo O5) B9->O5=F (lo O5)->R fl O5 B9)->S8 W tb n b (aO is (f x) (F u)) B9 R)
  (hk:∀u σ,I l u σ->S8 W tb n r (F u) σ K):∃xs,mF B4 v xs∧jW (M9 B4 v) (λ x ρ σ R=>∃ys,x=.tup ys∧ys.length=is.length∧S8 W tb n b (aO is ys ρ) σ R) xs ρ B4 (zQ W n r K):=
 ⟨_,hv,eE (λ pre ρ σ=>ρ=F (lo ρ)∧I pre (lo ρ) σ) ⟨HC,h0⟩ (λ pre x post ρ B9 R e ⟨e',h⟩ k=>⟨f x,rfl,hl x,e'▸hs pre x post (lo ρ) B9 R e h λ fl O5 B9 g s h e=>k fl _ B9 g s ⟨e,h⟩⟩) λ ρ σ ⟨e',h⟩=>e'▸hk (lo ρ) σ h⟩
theorem Zc{q:Nat}{f:Value}{as:uM}(h:(wp W tb n (.call q f as)).v ρ σ λ x B9=>∃b,zJ B9 x=some b∧B b B9):(wp W tb n (.call q f as)).t ρ σ B:=h
end
theorem OZ{β:Type}(F:Bool->β):∀{ps:List (Addr×β)} {bs:List Bool},ps.map (·.2)=bs.map F->∃l:List (Addr×Bool),l.map (·.2)=bs∧ps=l.map λ q=>(q.1,F q.2)
 |[],[],_=>⟨[],rfl,rfl⟩
 |[],_::_,h=>nomatch h
 |_::_,[],h=>nomatch h
 |p::ps,b::bs,h=>by
  injection h with h1 h2
  refine A0 (OZ F h2) λ l hZ=>?_;delta hZ e1 e2
  exact⟨(p.1,b)::l,C7 (b::·) e1,by rw[e2];exact C7 (·::_) (kH rfl h1)⟩
theorem KN(a p:List Str):(jB a p).length<=a.length+1+p.length:=by
 unfold jB
 split
 ·exact A9 (cO _) (J6 _ _)
 ·rw[B0,B0];exact D7 _
theorem Lp{G:Gr}{τ:PH}{K k:Nat}{D:fP}(w:G.Wf)(h:DM G τ K D)(hk:k<K):(HE G D k).length<=10∧∀p∈HE G D k,0<=p.2∧p.2<32768:=by
 refine⟨?_,λ p hp=>?_⟩
 ·unfold HE
  rw[A8]
  exact A9 (H4 ..) (by rw[D9];exact A9 (Nat.sub_le ..) w.names)
 ·refine A0 (D2.mp hp) λ i hZ=>?_;generalize hZ.1=hi;clear hp;obtain rfl:=hZ.2;try clear hZ
  exact⟨D0 (J5.mp hi).2,(h.HD hk _).1⟩
section
variable{W:Wd}(P:dR W){n:Nat}{σ:PH}{V g T o:Addr}{B:Oc}{A:Au}{G:Gr}{S:List St}{D:fP}{os:Ow}{Q:PV->PH->Prop}(w:G.Wf)(nm:VF G)(hG:qA σ g G)(hV:Iu σ V g B G S)(hT:wJ σ T A G S.length D)(au:yL G S)(hO:Ni σ o os)(oG:Ut G os)
include P w nm hG hV hT au hO oG
theorem KG{k:Nat}(hk:k<S.length)(q:∀B9,Ext σ B9->Q (.bool true) B9):J9 W (n+4) (.ref 922) [.ref V,.ref T,.ref o,C0 k] σ Q:=by
 have sh:=nm.sz
 have hs:S.getD k aB∈S:=B5 (W5 aB hk)
 have zi:(S.getD k aB).items.length<=15:=by rw[au.it _ hs];exact(au.ks _ hs).close.len w
 have zk:k<32768:=D1 hk au.len
 have z0:Sz 32770 (Z4 k):=Sz.Z4 (G6 k) (by lia)
 have rz:=(IS w sh hT.p hk).1
 have gz:=(QU w sh hT.p hk).2.1
 have rl:∀l:List (Str×Str),(Z0 l).length=l.length:=λ l=>A8 _
 have zl:(SP G D S B.ms k).length<=1000:=by
  have h1:=KN (jB ([DH k,oS ""]++yD G S B.ms k) (Z0 (U9 G D k))) (Z0 (iP G D k))
  have h2:=KN ([DH k,oS ""]++yD G S B.ms k) (Z0 (U9 G D k))
  have h3:([DH k,oS ""]++yD G S B.ms k).length<=17:=by unfold yD;rw[B0,A8];show 2+_<=_;lia
  rw[rl]at h1 h2
  unfold SP
  rw[B0]
  show _+1<=_
  lia
 have hZ:=PR w nm hT.p hk;delta hZ r1 r2
 have hZ:=lS λ p hp=>(r1 p hp).1;delta hZ hZ hZ cr
 have hZ:=lS r2;delta hZ hZ hZ cg
 have lz:∀l:List (Str×Str),(linesOf l).length=l.length:=λ l=>A8 _
 have gq:=XY G D k
 have hZ:=Lp w hT.p hk;delta hZ Xq bp
 refine P.fn kQ 77 rfl (ρ:=[.ref V,.ref T,.ref o,C0 k,.M7,.M7,.M7,.M7,.M7,.M7,.M7,.M7]) rfl (K1 (T5 (F9 (H7 (I9 rfl (I9 rfl (p1 rfl))) (ZR (n:=n) P w sh hG hV hT au hk λ c1 aL E1 h1=>M0 (Fm (n:=n+2) P h1 zl λ c4 W9 ps E2 h4 De Es=>?_))))))
 rw[WO w nm hT.p au hk]at Es
 refine A0 (List.map_eq_cons_iff.mp Es) λ y0 hZ=>?_;intros hZ ps Q0;obtain rfl:=Q0.1;generalize Q0.2=fU;delta fU e0 Es;try clear Q0
 refine A0 (List.map_eq_cons_iff.mp Es) λ y1 hZ=>?_;intros hZ ps Q0;obtain rfl:=Q0.1;generalize Q0.2=fU;delta fU e1 Es;try clear Q0
 refine A0 (OZ (λ b=>if b=true then linesOf (U9 G D k)else linesOf (iP G D k)) Es) λ l hZ=>?_;generalize hZ.1=el;obtain rfl:=hZ.2;try clear hZ
 have q0:=De _ (.head _)
 have q1:=De _ (.tail _ (.head _))
 have ql:∀q∈l,W9 q.1=some (.list ((if q.2=true then linesOf (U9 G D k)else linesOf (iP G D k)).map .str)):=λ q hq=>De _ (.tail _ (.tail _ (J2 (f:=λ q:Addr×Bool=>(q.1,if q.2=true then linesOf (U9 G D k)else linesOf (iP G D k))) hq)))
 have q0:W9 y0.1=some (.list [.str (oS "State "++Z4 k)]):=by rw[e0]at q0;exact q0
 rw[e1]at q1
 clear De e0 e1 Es
 have E2:=E1.trans E2
 have Yw:l.length<=2:=by
  rw[<-A8 (f:=(·.2)),el]
  unfold Ab
  rw[B0]
  have h:∀(c:Prop) [Decidable c] (b:Bool),(if c then[]else[b]).length<=1:=λ c _ b=>by split;exact K3 _;exact D7 _
  exact S0 (h _ _) (h _ _)
 have h4:W9 c4=some (.list (.ref y0.1::.ref y1.1::l.map λ q=>.ref q.1)):=by rw[h4,I6,I6,G2];rfl
 have V2:=hV.ext E2
 have T2:=hT.ext E2
 refine iH (VP (uT (t:=false) ((N3 (V8 rfl (len_list h4 rfl)) rfl rfl).trans (C7 some (J8 ?_))) (VP (iD (P2 (I8 rfl rfl (I0 (k:=0) h4 rfl)) (bQ (F9 (O6 (P2 rfl (H7 (p1 rfl) (CE (Tn zk) (w_add (.lit rfl:Sz 6 _) z0 rfl (M0 λ c5 EX=>⟨false,?_,zM (Zc (H7 (I9 rfl (I9 rfl (I9 rfl (p1 (I8 rfl rfl (I0 (k:=1) (Ext.new EX _ _ _ h4) rfl)))))) (NW (n:=n+1) P w sh (hG.ext (E2.trans (Ext.new EX _))) (V2.ext (Ext.new EX _)) au (hO.ext (E2.trans (Ext.new EX _))) oG hk (Ext.new EX _ _ _ q1) λ Y9 E3=>⟨true,rfl,(λ h=>nomatch h),λ _=>O7 ?_⟩)))⟩)))))))))))))
 ·rw[H5,H5];show ¬(((_+1+1:Nat):Int)<2);lia
 ·show Option.map _ (Bk _ (.ref y0.1) (.ref c5))=_
  rw[iQ (Ext.new EX _ _ _ q0) (PH.J7 ..) rfl];rfl
 have E3:Ext W9 Y9:=(Ext.new EX _).trans E3
 clear q0 q1 V2
 have h4:=E3 _ _ h4
 have T3:=T2.ext E3
 have ql:=λ q hq=>E3 _ _ (ql q hq)
 have E3:=E2.trans E3
 clear T2 E2 EX h1
 refine K1 (K7 (Led.start Y9) rfl λ c5 cI L=>K1 (K7 L rfl λ c6 eM L=>Z2 (LO L rfl (L.ext _ _ h4) rfl rfl rfl rfl rfl rfl (by rw[H5,H5,A8];lia) λ cs eX L=>?_)))
 refine Led.keep (L:=[(c5,PO.list []),(c6,.list [])]) (X:=[(cs,.list (fE (.ref y0.1::.ref y1.1::l.map λ q=>PV.ref q.1) (some 2) none))]) L λ Gp E0 L0 gB=>?_
 have Bi:Gp cs=some (.list (l.map λ q=>PV.ref q.1)):=(gB _ (.head _)).trans (C7 (λ x=>some (PO.list x)) (show fE (PV.ref y0.1::PV.ref y1.1::l.map λ q:Addr×Bool=>PV.ref q.1) (some 2) none=l.map λ q:Addr×Bool=>PV.ref q.1 from C7 (List.drop 2) (cB (l:=PV.ref y0.1::PV.ref y1.1::l.map λ q:Addr×Bool=>PV.ref q.1))))
 clear gB L h4
 let FA:List (Addr×Bool)->List (Str×Str):=λ pre=>pre.flatMap λ q=>if q.2=true then U9 G D k else[]
 let FG:List (Addr×Bool)->List (Str×Int):=λ pre=>pre.flatMap λ q=>if q.2=true then[]else HE G D k
 refine Z1 (λ v=>[.ref V,.ref T,.ref o,C0 k,.ref c4,.ref c5,.ref c6,v 7,v 8,v 9,v 10,v 11]) (l:=l) (f:=λ q=>.ref q.1) (λ pre _ B9=>∃τ,Ext Gp τ∧Led τ B9 [(c5,.list ((FA pre).map wO)),(c6,.list ((FG pre).map kE))] []) rfl (qT (L0.ext _ _ Bi) Yw rfl) ⟨Gp,.refl _,L0⟩ ?_ ?_
 ·intro pre p post u qC R hl hQ;intros hQ τ hZ;delta hZ E L;intro hR
  have hZ:=P5 hl;delta hZ hz hp
  have st:∀{B9},Ext Gp B9->M9 eX (.ref cs) B9:=λ E=>(E _ _ Bi).trans (L0.ext _ _ Bi).symm
  have qp:=(E0.trans (E.trans L.ext)) _ _ (ql p hp)
  have za:(FA pre).length<=64*2:=A9 (VE (λ q=>by split;exact rz;exact K3 _) pre) (fB 64 (by lia))
  have zg:(FG pre).length<=10*2:=A9 (VE (λ q=>by split;exact K3 _;exact Xq) pre) (fB 10 (by lia))
  have ea:FA (pre++[p])=FA pre++if p.2=true then U9 G D k else[]:=by show List.flatMap _ _=_;rw[Q7,Q2]
  have eg:FG (pre++[p])=FG pre++if p.2=true then[]else HE G D k:=by show List.flatMap _ _=_;rw[Q7,Q2]
  rw[ea,eg]at hR
  generalize FA pre=acc at L hR za
  generalize FG pre=Yi at L hR zg
  clear ea eg
  clear E1 E2 L0 c1 Es h4 hG hO hV Bi oG os q0 ql sh z0 Yw aL;clear hl hp;obtain⟨a,b⟩:=p
  refine Dl (H7 (p1 rfl) (Fw (n:=n+2) P qp (by split<;>rw[lz];exact rz;exact gz) λ cc IG E9 Ue VB=>Led.keep (L:=[(c5,.list (acc.map wO)),(c6,.list (Yi.map kE))]) (L.adopt E9 Ue VB) λ IF Az L1 gB=>?_))
  have VB:=gB _ (.head _)
  clear E9 Es g gz h4 Ue gB lz ql qp y0 y1;cases b with
  |true=>
   have VB:IF cc=some (.list ((U9 G D k).map wO)):=VB.trans (by rw[F7 rfl,cr])
   rw[F7 rfl,F7 rfl,C9]at hR
   refine QX (λ v=>[.ref V,.ref T,.ref o,C0 k,.ref c4,.ref c5,.ref c6,.ref a,v 8,v 9,v 10,v 11]) (l:=U9 G D k) (f:=λ p=>[.str p.1,.str p.2]) (λ p2 _ B9=>Led IF B9 [(c5,.list ((acc++p2).map wO)),(c6,.list (Yi.map kE))] []) rfl (qT (L1.ext _ _ VB) rz rfl) (λ _=>rfl) (by rw[C9];exact L1) ?_ λ u B9 L=>s_end (hR .next _ _ trivial (st ((E.trans Az).trans L.ext)) ⟨IF,E.trans Az,L⟩ rfl)
   intro p2 x iI u2 iW R2 fN L bS
   have hZ:=P5 fN;delta hZ w2 hx
   rw[<-C6]at bS
   refine iH (PD (J1 rfl (dO rfl) (p1 rfl) (cE ⟨false,C7 some (r1 x hx).2,(λ h=>nomatch h),λ _=>N4 (aH 0 (x:=wO x) L rfl rfl rfl (by rw[A8,B0];lia) λ oA _ L2=>O7 (s_end (bS .next _ _ trivial ((L2.ext _ _ VB).trans (L1.ext _ _ VB).symm) ?_ rfl)))⟩)))
   rw[Q5];exact L2
  |false=>
   have VB:IF cc=some (.list ((HE G D k).map λ p=>wO (gx p))):=VB.trans (by rw[G0 C5,cg,gq,G2];rfl)
   rw[G0 C5,G0 C5,C9]at hR
   refine QX (λ v=>[.ref V,.ref T,.ref o,C0 k,.ref c4,.ref c5,.ref c6,.ref a,v 8,v 9,v 10,v 11]) (l:=HE G D k) (f:=λ p=>[.str p.1,.str (oS "go to state "++Z4 p.2)]) (λ p2 _ B9=>Led IF B9 [(c5,.list (acc.map wO)),(c6,.list ((Yi++p2).map kE))] []) rfl (qT (L1.ext _ _ VB) Xq rfl) (λ _=>rfl) (by rw[C9];exact L1) ?_ λ u B9 L=>s_end (hR .next _ _ trivial (st ((E.trans Az).trans L.ext)) ⟨IF,E.trans Az,L⟩ rfl)
   intro p2 x iI u2 iW R2 fN L bS
   have hZ:=P5 fN;delta hZ w2 hx
   have hZ:=bp x hx;delta hZ x0 x1
   rw[<-C6]at bS
   refine iH (PD (J1 rfl (dO rfl) (p1 rfl) (cE ⟨true,C7 some (KT.starts_app _ _),λ _=>N4 (T0 rfl (N9 (L.get 1 rfl) _) (F9 (dM (F9 (P2 rfl (F9 (T5 (F9 (rC rfl (V8 rfl rfl) rfl rfl rfl (M0 ?_)))))))))),λ h=>nomatch h⟩)))
   show J9 W (n+3) (.type "int") [.str (Txt.slice (oS "go to state "++Z4 x.2) (some ((oS "go to state ").length:Int)) none)] iW _
   rw[yO]
   refine Ai x0 (by lia) (M0 (M0 (aX 1 L rfl (by rw[A8,B0];lia) λ oA _ L2=>O7 (s_end (bS .next _ _ trivial ((L2.ext _ _ VB).trans (L1.ext _ _ VB).symm) ?_ rfl)))))
   rw[Q5];exact L2
 ·intro u qC hQ;intros hQ τ hZ;delta hZ E L
  have ea:FA l=U9 G D k:=by
   show l.flatMap _=_
   have:l.flatMap (λ q=>if q.2=true then U9 G D k else[])=(l.map (·.2)).flatMap λ b=>if b=true then U9 G D k else[]:=by rw[List.flatMap_map]
   rw[this,el]
   unfold Ab
   by_cases c:U9 G D k=[]<;>by_cases c2:iP G D k=[]
   ·rw[F7 c,F7 c2,c];rfl
   ·rw[F7 c,G0 c2,c];rfl
   ·rw[G0 c,F7 c2];exact C9 _
   ·rw[G0 c,G0 c2];exact C9 _
  have eg:FG l=HE G D k:=by
   show l.flatMap _=_
   have:l.flatMap (λ q=>if q.2=true then[]else HE G D k)=(l.map (·.2)).flatMap λ b=>if b=true then[]else HE G D k:=by rw[List.flatMap_map]
   rw[this,el]
   unfold Ab
   have gn:iP G D k=[]->HE G D k=[]:=λ h=>mV.mp (gq.symm.trans h)
   by_cases c:U9 G D k=[]<;>by_cases c2:iP G D k=[]
   ·rw[F7 c,F7 c2,gn c2];rfl
   ·rw[F7 c,G0 c2];exact C9 _
   ·rw[G0 c,F7 c2,gn c2];rfl
   ·rw[G0 c,G0 c2];exact C9 _
  rw[ea,eg]at L
  clear ea eg
  have E:=E0.trans E
  have T4:=T3.ext E
  have E4:=E3.trans E
  refine K1 (K7 L rfl λ Aa IG L=>Z2 (H7 (I9 (D8 rfl ((T4.ob.ext L.ext).fld _)) (p1 (V8 (D8 rfl ((T4.ob.ext L.ext).fld _)) (len_list (L.ext _ _ T4.nm) (A8 _))))) (KK (Z1 (λ v=>[.ref V,.ref T,.ref o,C0 k,.ref c4,.ref c5,.ref c6,v 7,v 8,v 9,.ref Aa,v 11]) (l:=List.range (G.names.length - G.tc)) (f:=λ i=>C0 (G.tc+i)) (λ pre _ B9=>Led τ B9 [(c5,.list ((U9 G D k).map wO)),(c6,.list ((HE G D k).map kE)),(Aa,.list (((pre.filter λ i=>decide (D.goal k (G.tc+i)>=0)).map λ i=>(aP G (G.tc+i),D.goal k (G.tc+i))).map kE))] []) rfl (QM w.tc (A9 w.names (by decide))) L ?_ λ u eM L=>?_))))
  ·intro pre i post u iW R hl L hR
   have hZ:=P9 hl;delta hZ hp hi
   have y2:=w.names
   have hz:((pre.filter λ i=>decide (D.goal k (G.tc+i)>=0)).map λ i=>(aP G (G.tc+i),D.goal k (G.tc+i))).length<=10:=by
    rw[A8]
    exact A9 (H4 ..) (by rw[hp,D9];exact DW hi y2)
   have TL:=T4.ext L.ext
   rw[G7,C1]at hR
   generalize (pre.filter λ i=>decide (D.goal k (G.tc+i)>=0)).map (λ i=>(aP G (G.tc+i),D.goal k (G.tc+i)))=acc at L hR hz
   refine iH (iD (J1 rfl (TL.ob.H2 "goto" rfl rfl) (I9 rfl (p1 rfl)) (NY (n:=n+2) P TL hk (P2 rfl ⟨decide (D.goal k (G.tc+i)>=0),rfl,λ h=>?_,λ h=>?_⟩))))
   ·rw[show[i].filter (λ i=>decide (D.goal k (G.tc+i)>=0))=[i]from J3 h]at hR
    refine N4 (T0 rfl (N9 (L.get 2 rfl) _) (F9 (dM (F9 (P2 (I8 (D8 rfl (TL.ob.fld _)) rfl (W8 sD TL.nm (by lia))) (F9 (J1 rfl (TL.ob.H2 "goto" rfl rfl) (I9 rfl (p1 rfl)) (NY (n:=n+2) P TL hk (M0 (M0 (aX 2 L rfl (by rw[A8];lia) λ oA _ L2=>O7 (s_end (hR .next _ _ trivial trivial ?_ rfl)))))))))))))
    show Led τ oA [_,_,(Aa,.list (List.map kE (acc++[(aP G (G.tc+i),D.goal k (G.tc+i))])))] _
    rw[Q5];exact L2
   ·rw[show[i].filter (λ i=>decide (D.goal k (G.tc+i)>=0))=[]from J4 (by rw[h];exact C5)]at hR
    exact O7 (s_end (hR .next _ _ trivial trivial (by rw[nO,C9];exact L) rfl))
  have L:Led τ eM [(c5,.list ((U9 G D k).map wO)),(c6,.list ((HE G D k).map kE)),(Aa,.list ((HE G D k).map kE))] []:=L
  have h5:=L.get 0 rfl
  have h6:=L.get 1 rfl
  have Ln:=L.get 2 rfl
  have E5:=E4.trans L.ext
  have i8:(HE G D k).length<64:=H8 Xq (by decide)
  clear L
  refine W3 (v_and (DP (H7 (p1 rfl) (pY h6 i8 λ a1 b1=>H7 (p1 rfl) (pY (Ext.new b1 _ _ _ Ln) i8 λ a2 b2=>⟨true,iQ (Ext.new b2 _ _ _ (PH.J7 ..)) (PH.J7 ..) (pN _),true,rfl,?_⟩)))))
  have Ay:=(Ext.new b1 (.list ((oB (HE G D k)).map kE))).trans (Ext.new b2 (.list ((oB (HE G D k)).map kE)))
  generalize (eM.set a1 _).set a2 _=rB at Ay ⊢
  exact H7 (I9 rfl (I9 rfl (p1 rfl))) (UG (n:=n+1) P w nm (hT.ext (E5.trans Ay)) au.len hk (Ay _ _ h5) λ B9 E'=>q B9 ((E5.trans Ay).trans E'))
end
def sA:Str:=oS "a"
def sB:Str:=oS "b"
def acc:Str:=oS "$accept"
def W4:List Str:=[sA,sB,sS,sT]
def TT:List (List Str):=[yB,yB++[sA],yB++[sB],yB++[sA,sB],yB++[sB,sA]]
def MU(ts:List Str):List Str:=ts++[acc]++[sS,sT]
theorem Bu:∀l∈TT,∀y∈W4,kB [sS,sT] l y∈TT:=by decide+kernel
theorem Pb:∀ts∈TT,And (MU ts).Nodup (And (3<=ts.length) (And (ts.length<=5) (And (∀y∈W4,(MU ts).idxOf y≠ts.length) (And ((MU ts)[ts.length]? =some acc) (And ((MU ts)[0]? =some (oS "$end")) (oS "$default"∉MU ts)))))):=by decide+kernel
theorem Pa:∀ts∈TT,∀x∈MU ts,And ((cp x).all (λ c=>decide (And (33<=c) (c<127)))=true) (And ((cp x).isEmpty=false) (x.length<=10)):=by decide+kernel
theorem PA:∀{ws l:List Str},l∈TT->(∀y∈ws,y∈W4)->ws.foldl (kB [sS,sT]) l∈TT∧∀y,y∈l∨(y∈ws∧y∉[sS,sT])->y∈ws.foldl (kB [sS,sT]) l
 |[],l,h,_=>⟨h,λ y hy=>hy.elim id λ h=>nomatch h.1⟩
 |x::ws,l,h,hw=>by
  have hZ:=PA (Bu l h x (hw x (.head _))) λ y hy=>hw y (.tail _ hy);delta hZ h1 h2
  refine⟨h1,λ y hy=>h2 y ?_⟩
  have keep:y∈l->y∈kB [sS,sT] l x:=λ h=>by unfold kB;split;exact h;exact H0 _ h
  clear h2 h1;rcases hy with hy|⟨hy,ny⟩
  ·exact .inl (keep hy)
  ·clear keep;rcases F8.mp hy with rfl|hy
   ·refine .inl ?_
    unfold kB
    split
    ·rename_i c;exact c.resolve_left ny
    ·exact G4 _ (.head _)
   ·exact .inr ⟨hy,ny⟩
theorem VN:∀{ps:xL} {l:List Str},l∈TT->(∀x∈ps,∀y∈x.1.2,y∈W4)->ps.foldl (λ l x=>x.1.2.foldl (kB [sS,sT]) l) l∈TT∧∀y,y∈l∨((∃x∈ps,y∈x.1.2)∧y∉[sS,sT])->y∈ps.foldl (λ l x=>x.1.2.foldl (kB [sS,sT]) l) l
 |[],l,h,_=>⟨h,λ y hy=>hy.elim id λ⟨⟨_,h,_⟩,_⟩=>nomatch h⟩
 |x::ps,l,h,hw=>by
  have hZ:=PA h (hw x (.head _));delta hZ h1 h2
  have hZ:=VN h1 λ z hz=>hw z (.tail _ hz);delta hZ h3 h4
  refine⟨h3,λ y hy=>h4 y ?_⟩
  clear h4 h3 h1;rcases hy with hy|⟨⟨z,hz,hy⟩,ny⟩
  ·exact .inl (h2 y (.inl hy))
  ·rcases F8.mp hz with rfl|hz
   ·exact .inl (h2 y (.inr ⟨hy,ny⟩))
   ·exact .inr ⟨⟨z,hz,hy⟩,ny⟩
def Yp(ps:xL):Prop:=∃(a1:Addr) (w1:List Str) (a2:Addr) (x2:Str) (a3:Addr) (w3:List Str) (rest:xL),ps=[((sS,w1),a1),((sS,[x2]),a2),((sT,w3),a3)]++rest∧w1.length<=3∧w3.length<=1∧(∀y∈w1++x2::w3,y∈W4)∧
 (rest=[]∨∃l w a,rest=[((l,w),a)]∧(l=sS∨l=sT)∧w.length<=3∧∀y∈w,y∈W4)
theorem NK{l:List Str}{x:Str}(h:x∈l):l[l.idxOf x]? =some x∧l.getD (l.idxOf x) sD=x:=by
 have h1:=Y6.mpr h
 have e:l[l.idxOf x]? =some x:=by rw[C4 h1,nX]
 exact⟨e,by rw[C2,e];rfl⟩
section
variable{ps:xL}(h:Yp ps)
include h
theorem Qe:KR ps∧VF (Q8 ps)∧∀(a:Addr),Ut (Q8 ps) ((acc,a,[sS,oS "$end"])::ps.map λ x=>(x.1.1,x.2,x.1.2)):=by
 intros h a1 hZ;intros hZ w1 Q0;intros Q0 a2 P4;intros P4 x2 fU;intros fU a3 sE;intros sE w3 nS;intros nS rest uC;delta uC e z1 z3 hw hr
 have hl:∀x∈ps,x.1.1=sS∨x.1.1=sT:=λ x hx=>by
  rw[e]at hx
  rcases G9.mp hx with hx|hx
  ·rcases F8.mp hx with rfl|hx;exact .inl rfl
   rcases F8.mp hx with rfl|hx;exact .inl rfl
   rewrite[D5.mp hx];exact .inr rfl
  ·rcases hr with hr|⟨l,w,a,hr,h1,_⟩
   ·rw[hr]at hx;nomatch hx
   ·rw[hr]at hx;rewrite[D5.mp hx];exact h1
 have Tu:∀x∈ps,x.1.2.length<=3∧∀y∈x.1.2,y∈W4:=λ x hx=>by
  rw[e]at hx
  rcases G9.mp hx with hx|hx
  ·rcases F8.mp hx with rfl|hx;exact⟨z1,λ y hy=>hw y (H0 _ hy)⟩
   rcases F8.mp hx with rfl|hx;exact⟨C3 rfl,λ y hy=>hw y (G4 _ (D5.mp hy▸.head _))⟩
   rewrite[D5.mp hx];exact⟨A9 z3 (by decide),λ y hy=>hw y (G4 _ (.tail _ hy))⟩
  ·rcases hr with hr|⟨l,w,a,hr,_,h2,h3⟩
   ·rw[hr]at hx;nomatch hx
   ·rw[hr]at hx;rewrite[D5.mp hx];exact⟨h2,h3⟩
 have hle:bR ps=[sS,sT]:=by
  rw[e]
  have h0:bR [((sS,w1),a1),((sS,[x2]),a2),((sT,w3),a3)]=[sS,sT]:=by
   show eJ (eJ (eJ [] sS) sS) sT=_
   decide+kernel
  unfold bR at h0 ⊢
  rw[K9,h0]
  rcases hr with hr|⟨l,w,a,hr,h1,_⟩
  ·rw[hr];rfl
  ·rw[hr]
   show eJ [sS,sT] l=_
   clear hr;rcases h1 with rfl|rfl<;>decide+kernel
 have hZ:=VN (ps:=ps) (l:=yB) (.head _) λ x hx=>(Tu x hx).2;delta hZ t1 t2
 have t1:V3 [sS,sT] ps∈TT:=t1
 have hZ:=Pb _ t1;generalize hZ.1=n1;generalize hZ.2=Q0;generalize Q0.1=n2;generalize Q0.2=P4;generalize P4.1=n3;generalize P4.2=fU;generalize fU.1=n4;generalize fU.2=sE;generalize sE.1=n5;generalize sE.2=nS;delta nS n6 n7;try clear sE;try clear fU;try clear P4;try clear Q0;try clear hZ
 have nw:=Pa _ t1
 have en:(Q8 ps).names=MU (V3 [sS,sT] ps):=rfl
 have et:(Q8 ps).tc=(V3 [sS,sT] ps).length:=rfl
 have mS:sS∈(Q8 ps).names:=G4 _ (.head _)
 have mT:sT∈(Q8 ps).names:=G4 _ (.tail _ (.head _))
 have mem:∀x∈ps,∀y∈x.1.2,y∈(Q8 ps).names:=λ x hx y hy=>by
  by_cases c:y∈[sS,sT]
  ·clear hy;rcases F8.mp c with rfl|c;exact mS
   rw[D5.mp c];exact mT
  ·exact H0 _ (H0 _ (t2 y (.inr ⟨⟨x,hx,hy⟩,c⟩)))
 have lm:∀x∈ps,x.1.1∈(Q8 ps).names:=λ x hx=>(hl x hx).elim (λ e=>e▸mS) λ e=>e▸mT
 have er:(Q8 ps).rules=⟨(Q8 ps).tc,[(Q8 ps).names.idxOf sS,0]⟩::ps.map λ x=>⟨(Q8 ps).names.idxOf x.1.1,x.1.2.map (Q8 ps).names.idxOf⟩:=rfl
 have nl:(Q8 ps).names.length=(Q8 ps).tc+3:=by rw[en,et];unfold MU;rw[B0,B0];rfl
 have ii:∀{y},y∈(Q8 ps).names->(Q8 ps).names.idxOf y<(Q8 ps).names.length:=λ h=>Y6.mpr h
 have pl:ps.length<=4:=by
  rw[e]
  rcases hr with hr|⟨l,w,a,hr,_⟩<;>rw[hr]
  ·exact cO 3
  ·exact D7 4
 have wS:sS∈W4:=.tail _ (.tail _ (.head _))
 have wf:(Q8 ps).Wf:=by
  refine⟨λ r hr=>?_,λ r hr x hx=>?_,λ r hr=>?_,?_,?_,?_,?_,?_,λ r hr hx=>?_,?_,n2,n3⟩
  ·rw[er]at hr
   rcases F8.mp hr with rfl|hr
   ·show(Q8 ps).tc<_;rw[nl];exact gK (by decide)
   ·refine A0 (D2.mp hr) λ x hZ=>?_;generalize hZ.1=hx;obtain rfl:=hZ.2;try clear hZ;exact ii (lm x hx)
  ·rw[er]at hr
   rcases F8.mp hr with rfl|hr
   ·rcases F8.mp hx with rfl|hx
    ·exact ii mS
    ·rw[D5.mp hx,nl];exact eP _
   ·refine A0 (D2.mp hr) λ y hZ=>?_;generalize hZ.1=hy;clear hr;obtain rfl:=hZ.2;try clear hZ
    refine A0 (D2.mp hx) λ z hZ=>?_;generalize hZ.1=hz;clear hx;obtain rfl:=hZ.2;try clear hZ
    exact ii (mem y hy z hz)
  ·rw[er]at hr
   rcases F8.mp hr with rfl|hr
   ·exact C3 rfl
   ·refine A0 (D2.mp hr) λ x hZ=>?_;generalize hZ.1=hx;obtain rfl:=hZ.2;try clear hZ
    show(x.1.2.map _).length<=3
    rw[A8];exact(Tu x hx).1
  ·rw[er,H5,A8];lia
  ·rw[nl,et];lia
  ·rw[er];exact eP _
  ·show(gQ _ 0).length<=15
   rw[pR,er,I6,G2,qY]
   have f:∀l:xL,(l.map ((λ r:Rl=>r.right.length+1)∘λ x=>(⟨(Q8 ps).names.idxOf x.1.1,x.1.2.map (Q8 ps).names.idxOf⟩:Rl)))=l.map λ x=>x.1.2.length+1:=λ l=>P1 λ x _=>by show(x.1.2.map _).length+1=_;rw[A8]
   rw[f,e,C1,List.sum_append]
   show 3+((w1.length+1)+((1+1)+((w3.length+1)+0))+_)<=15
   rcases hr with hr|⟨l,w,a,hr,_,h2,_⟩<;>rw[hr]
   ·show 3+(_+0)<=15;lia
   ·show 3+(_+(w.length+1+0))<=15;lia
  ·rw[nl];exact J6 _ _
  ·rw[er]at hr
   rcases F8.mp hr with rfl|hr
   ·rcases F8.mp hx with hx|hx
    ·exact n4 sS wS hx.symm
    ·have:(Q8 ps).tc=0:=D5.mp hx
     rw[et]at this;lia
   ·refine A0 (D2.mp hr) λ y hZ=>?_;generalize hZ.1=hy;clear et hr t1 wS;clear hr;obtain rfl:=hZ.2;try clear hZ
    refine A0 (D2.mp hx) λ z hZ=>?_;delta hZ hz e
    exact n4 z ((Tu y hy).2 z hz) e
  ·rfl
 refine⟨⟨pl,λ x hx=>(Tu x hx).1,hl,hle,mem,wf⟩,⟨n1,λ x hx=>VH (nw x hx).1 (nw x hx).2.1,λ x hx=>(nw x hx).2.2,n7⟩,λ a i hi=>?_⟩
 cases i with
 |zero=>
  have e0:(Q8 ps).rules.getD 0 oF=⟨(Q8 ps).tc,[(Q8 ps).names.idxOf sS,0]⟩:=by rw[C2,er];rfl
  rw[e0]
  refine⟨a,C7 some (kH ?_ (kH rfl ?_))⟩
  ·show acc=(Q8 ps).names.getD (Q8 ps).tc sD
   rw[C2,show(Q8 ps).names[(Q8 ps).tc]? =some acc from n5];rfl
  ·show[sS,oS "$end"]=[(Q8 ps).names.getD ((Q8 ps).names.idxOf sS) sD,(Q8 ps).names.getD 0 sD]
   rw[(NK mS).2,C2,show(Q8 ps).names[0]? =some (oS "$end")from n6];rfl
 |succ i=>
  rw[er,H5,A8]at hi
  have hi:=Nat.lt_of_succ_lt_succ hi
  have ex:=C4 hi
  have hx:=sK hi
  have eg:(Q8 ps).rules.getD (i+1) oF=⟨(Q8 ps).names.idxOf ps[i].1.1,ps[i].1.2.map (Q8 ps).names.idxOf⟩:=by
   rw[C2,er,gN,H9,ex];rfl
  refine⟨ps[i].2,?_⟩
  rw[gN,H9,ex,eg]
  refine C7 some (kH ?_ (kH rfl ?_))
  ·exact((NK (lm _ hx)).2).symm
  ·show ps[i].1.2=(ps[i].1.2.map _).map _
   rw[G2]
   exact((P1 λ y hy=>(NK (mem _ hx y hy)).2).trans (gL _)).symm
end
section
theorem VJ{W:Wd}{n:Nat}{σ:PH}{ρ:List PV}{Q:PV->PH->Prop}{e:PE}(he:pv σ ρ e=some (.ref W.xO))(hz:W.PL.length<=63)(k:∀c B9,Led σ B9 [(c,.list ((W.PL.take 24).map .int))] []->Q (.ref c) B9):(wp W tb n (.wQ e .absent (.int 24))).v ρ σ Q:=
 X5 e he ⟨W.PL.map .int,none,some 24,.inr ⟨rfl,rfl⟩,rfl,rfl,rfl,AZ (d:=24) (by decide),by rw[A8];exact A9 hz (by decide),λ c hc=>by
  have e:fE (W.PL.map PV.int) none (some 24)=(W.PL.take 24).map .int:=List.map_take.symm
  rw[e];exact k c _ ((Led.start σ).alloc hc _)⟩
variable{W:Wd}(P:dR W){n:Nat}{σ:PH}{Q:PV->PH->Prop}
include P
theorem Si(hz:W.PL.length<=63)(q:∀c B9 (m:Nat),Led σ B9 [(c,.list [C0 m,.int 0])] []->Q (.ref c) B9):J9 W (n+1) (.ref 860) [.ref W.xO] σ Q:=by
 refine P.fn EE 67 rfl (ρ:=[.ref W.xO,.M7,.M7]) rfl (P3 rfl (Z2 (VJ rfl hz λ cs aL L0=>?_)))
 have h0:=L0.get 0 rfl
 refine Z1 (λ v=>[.ref W.xO,v 1,v 2]) (l:=W.PL.take 24) (f:=.int) (λ _ v B9=>(∃m:Nat,v 1=C0 m)∧B9=aL) rfl (qT h0 (by rw[Y2];exact Nat.min_le_left ..) rfl) ⟨⟨0,rfl⟩,rfl⟩ ?_ ?_
 ·intro pre c post u W9 R hl hQ;refine A0 hQ.1 λ m hm=>?_;clear L0 h0;obtain rfl:=hQ.2;try clear hQ;intro hR
  refine K1 (O6 (O6 (O6 (O6 (P2 (rI hm rfl) (P2 rfl ⟨.inr ⟨by decide,by decide⟩,O6 (P2 rfl (H7 (p1 rfl) (So ⟨.inl ⟨by decide,by decide⟩,v_ite (uT (t:=decide (c<0)) (N3 rfl rfl rfl) ?_)⟩)))⟩))))))
  have z:(0:Int)<=m:=G6 m
  have fin:∀j:Int,0<=j->S8 W tb n .nil (([.ref W.xO,u 1,u 2].set 2 (.int c)).set 1 (.int ((((m:Int)*1000003+2*(if c<0 then -c else c))+j)+1))) W9 R:=λ j hj=>s_end (hR .next _ _ trivial rfl ⟨⟨((((m:Int)*1000003+2*(if c<0 then -c else c))+j)+1).toNat,by
   show PV.int _=.int _
   rw[Int.toNat_of_nonneg (by split<;>lia)]⟩,rfl⟩ rfl)
  cases decide (c<0)with
  |true=>exact P2 rfl (P2 rfl (fin 1 (by decide)))
  |false=>exact P2 rfl (P2 rfl (fin 0 (by decide)))
 ·intro u W9 hQ;refine A0 hQ.1 λ m hm=>?_;clear h0;obtain rfl:=hQ.2;try clear hQ
  exact W3 (K7 (L:=[]) (R:=[(cs,.list ((W.PL.take 24).map .int))]) (L0.perm (.refl _)) (I9 (rI hm rfl) (I9 rfl Hi)) λ c B9 L=>q c B9 m (L.sub (qZ ..)))
theorem pG{C8:PH}{L R:List (Addr×PO)}{pa:Addr}{m t many:Nat}(hL:Led C8 σ ((pa,.list [C0 m,C0 t])::L) R)(ht:t<=1000)(hm:1<=many)(q:∀d m' B9,d<many->Led C8 B9 ((pa,.list [C0 m',C0 (t+1)])::L) R->Q (C0 d) B9):J9 W (n+1) (.ref 867) [.ref pa,C0 many] σ Q:=by
 have nz:(many:Int)≠0:=Int.natCast_ne_zero.mpr (Nat.ne_of_gt hm)
 have fm:∀a:Nat,Int.fmod (a:Int) (many:Int)=((a%many:Nat):Int):=λ a=>by rw[Int.fmod_eq_emod_of_nonneg _ (G6 _)];rfl
 have fd:∀a:Nat,Int.fdiv (a:Int) (many:Int)=((a/many:Nat):Int):=λ a=>by rw[nZ _ (G6 _)];rfl
 refine P.fn zZ 68 rfl (ρ:=[.ref pa,C0 many,.M7]) rfl (mX 0 (x:=C0 (t+1)) (j:=1) hL rfl (jK (I8 rfl rfl (I0 (k:=1) (hL.get 0 rfl) rfl)) rfl rfl) rfl rfl (K5 1) λ aL _ L1=>?_)
 have L1:Led C8 aL ((pa,.list [C0 m,C0 (t+1)])::L) R:=L1
 refine dA (t:=decide ((m:Int)>0)) (N3 (I8 rfl rfl (I0 (k:=0) (L1.get 0 rfl) rfl)) rfl rfl) (λ _=>?_) λ _=>O7 ?_
 ·refine K1 (O6 (P2 (I8 rfl rfl (I0 (k:=0) (L1.get 0 rfl) rfl)) (P2 rfl ⟨nz,?_⟩)))
  rw[fm]
  refine zT (O6 (P2 (I8 rfl rfl (I0 (k:=0) (L1.get 0 rfl) rfl)) (P2 rfl ⟨nz,?_⟩)))
  rw[fd]
  refine P2 rfl (P2 rfl (VI 0 L1 rfl (j:=0) (eP 1) λ W9 _ L2=>W3 (P2 rfl (q _ _ W9 (Nat.mod_lt _ hm) L2))))
 ·refine W3 (O6 (O6 (O6 (P2 (I8 rfl rfl (I0 (k:=1) (L1.get 0 rfl) rfl)) (P2 (I8 rfl rfl (I0 (k:=1) (L1.get 0 rfl) rfl)) ⟨.inl ⟨by lia,by lia⟩,P2 rfl (P2 rfl ⟨nz,?_⟩)⟩)))))
  show Q (.int (Int.fmod (((t+1:Nat):Int)*((t+1:Nat):Int)+1) (many:Int))) aL
  rw[show(((t+1:Nat):Int)*((t+1:Nat):Int)+1)=(((t+1)*(t+1)+1:Nat):Int)from rfl,fm]
  exact q _ _ aL (Nat.mod_lt _ hm) L1
end
def T6:List Str:=[sA,sB,sS,sT,sS,sA]
theorem t6:∀y∈T6,y∈W4:=by decide+kernel
abbrev SW(m t:Nat):PO:=.list [C0 m,C0 t]
structure Og(τ:PH)(ps:xL):Prop where
 r:∀x∈ps,τ x.2=some (.list (x.1.2.map .str))
theorem Og.ext{σ B9:PH}(E:Ext σ B9){ps:xL}(h:Og σ ps):Og B9 ps:=⟨λ x hx=>E _ _ (h.r x hx)⟩
abbrev SV(ps:xL):PO:=.list (ps.map λ x=>.tup (Hg x))
theorem w_addN{σ:PH}{Q:PV->PH->Prop}{i j:Nat}(q:Q (C0 (i+j)) σ):mO .Add σ Q (C0 i) (C0 j):=q
theorem t2:∀y∈[sA,sB],y∈W4:=by decide+kernel
section
variable{W:Wd}(P:dR W){n:Nat}{σ C8:PH}{L:List (Addr×PO)}{pa:Addr}{m t:Nat}{Q:PV->PH->Prop}
include P
theorem RT{len:Nat}(hL:Led C8 σ ((pa,SW m t)::L) [])(ht:t<=900)(hz:len<=3)(q:∀(c:Addr) (m':Nat) (ws:List Str) (B9:PH),ws.length=len->(∀y∈ws,y∈W4)->Led C8 B9 ((pa,SW m' (t+len))::L++[(c,.list (ws.map .str))]) []->Q (.ref c) B9):J9 W (n+2) (.ref 872) [.ref pa,C0 len] σ Q:=by
 refine P.fn wU 69 rfl (ρ:=[.ref pa,C0 len]) rfl (W3 (jH (H7 (p1 rfl) (aQ ⟨_,fJ (A9 hz (by decide)),comp_map (λ pre acc B9=>∃(m':Nat) (ws:List Str),acc=ws.map PV.str∧ws.length=pre.length∧(∀y∈ws,y∈W4)∧Led C8 B9 ((pa,SW m' (t+pre.length))::L) []) ⟨m,[],rfl,rfl,λ _ h=>(nomatch h),hL⟩ ?_ ?_⟩))))
 ·intro pre i post acc aL R hl hQ;intros hQ m' hZ;intros hZ ws Q0;obtain rfl:=Q0.1;delta Q0 Q0 e1 e2 L1;intro hR
  have hp:=(P5 hl).1
  rw[D9]at hp
  have e3:(pre++[i]).length=pre.length+1:=B0
  rw[e3]at hR
  refine⟨[C0 i],rfl,uT rfl (v_sub (P2 (x:=.tup (T6.map .str)) rfl (H7 (I9 rfl (p1 rfl)) (pG (n:=n) (many:=6) P L1 (by lia) (by decide) λ d m2 W9 hd L2=>⟨.str (T6.getD d sD),fQ (V5 (W5 sD hd)),hR (some (.str (T6.getD d sD))) W9 trivial ⟨m2,ws++[T6.getD d sD],?_,?_,T8 e2 (t6 _ (B5 (W5 sD hd))),L2⟩⟩))))⟩
  ·rw[Q5]
  ·rw[B0,e1];rfl
 ·intro acc aL hQ;intros hQ m' hZ;intros hZ ws Q0;obtain rfl:=Q0.1;delta Q0 Q0 e1 e2 L1;intro c hc
  rw[D9]at e1 L1
  exact q c m' ws _ e1 e2 (L1.alloc hc _)
theorem Fn(hL:Led C8 σ [(pa,SW m t)] [])(ht:t<=100)(q:∀(c:Addr) (τ:PH) (m' t':Nat) (ps:xL) (B9:PH),t'<=900->Yp ps->Ext C8 τ->Og τ ps->Led τ B9 [(pa,SW m' t'),(c,SV ps)] []->Q (.ref c) B9):J9 W (n+3) (.ref 879) [.ref pa] σ Q:=by
 refine P.fn wW 70 rfl (ρ:=[.ref pa,.M7,.M7,.M7,.M7]) rfl (K1 (H7 (I9 rfl (p1 rfl)) (pG (n:=n+1) (many:=2) P hL (by lia) (by decide) λ more m1 aL hm L1=>?_)))
 refine K1 (bQ (F9 (dM (F9 (P2 rfl (F9 (T5 (F9 (P2 rfl (F9 (O6 (P2 rfl (H7 (I9 rfl (p1 rfl)) (pG (n:=n+1) (many:=3) P L1 (by lia) (by decide) λ d1 m2 W9 d9 L2=>w_addN (i:=1) (M0 (RT (n:=n) (len:=1+d1) P L2 (by lia) (by lia) λ a1 m3 w1 Y9 e1 k1 L3=>M0 (M0 λ c2 Bj=>?_)))))))))))))))))
 have L4:=L3.alloc Bj (SV [((sS,w1),a1)])
 generalize Kx:Y9.set c2 _=bM
 rw[show Y9.set c2 (SV [((sS,w1),a1)])=bM from Kx]at L4
 have L4:Led C8 bM ((pa,SW m3 (t+1+1+(1+d1)))::[(a1,.list (w1.map .str)),(c2,SV [((sS,w1),a1)])]) []:=L4
 refine N4 (T0 rfl (N9 (L4.get 2 rfl) _) (F9 (dM (F9 (P2 rfl (F9 (bQ (F9 (v_sub (P2 (x:=.tup ([sA,sB].map .str)) rfl (H7 (I9 rfl (p1 rfl)) (pG (n:=n+1) (many:=2) P L4 (by lia) (by decide) λ d2 m4 cI hd2 L5=>⟨.str ([sA,sB].getD d2 sD),fQ (V5 (W5 sD hd2)),M0 λ a2 e7=>M0 (M0 ?_)⟩))))))))))))
 have kx:[sA,sB].getD d2 sD∈W4:=t2 _ (B5 (W5 sD hd2))
 generalize [sA,sB].getD d2 sD=x2 at kx e7 ⊢
 have L6:=L5.alloc e7 (.list [.str x2])
 generalize cI.set a2 _=eM at L6 ⊢
 refine aX 2 L6 rfl (C3 rfl) λ eX _ L7=>?_
 have L7:Led C8 eX ((pa,SW m4 (t+1+1+(1+d1)+1))::[(a1,.list (w1.map .str)),(c2,SV [((sS,w1),a1),((sS,[x2]),a2)]),(a2,.list ([x2].map .str))]) []:=L7
 refine N4 (T0 rfl (N9 (L7.get 2 rfl) _) (F9 (dM (F9 (P2 rfl (F9 (v_sub (bQ (F9 (K7 L7 rfl λ e1 qC L8=>F9 (K7 (xs:=[.str sA]) L8 rfl λ e2 IG L9=>M0 λ e3 ao=>?_)))))))))))
 have L9:=L9.alloc ao (.list [.ref e1,.ref e2])
 generalize IG.set e3 _=iW at L9 ⊢
 refine H7 (I9 rfl (p1 rfl)) (pG (n:=n+1) (many:=2) P L9 (by lia) (by decide) λ d3 m5 oA aw OO=>?_)
 obtain⟨a3,w3,g1,g2,g3,g4⟩:∃(a3:Addr) (w3:List Str),[PV.ref e1,.ref e2][d3]? =some (.ref a3)∧(a3,PO.list (w3.map .str))∈[(e1,PO.list []),(e2,.list [.str sA])]∧w3.length<=1∧∀y∈w3,y∈W4:=
  Zp (C:=λ d3=>∃(a3:Addr) (w3:List Str),[PV.ref e1,.ref e2][d3]? =some (.ref a3)∧(a3,PO.list (w3.map .str))∈[(e1,PO.list []),(e2,.list [.str sA])]∧w3.length<=1∧∀y∈w3,y∈W4) aw ⟨e1,[],rfl,.head _,K3 _,λ _ h=>nomatch h⟩ ⟨e2,[sA],rfl,.tail _ (.head _),D7 _,λ y h=>D5.mp h▸.head _⟩
 refine⟨.ref a3,I0 (OO.get 6 rfl) g1,M0 (M0 (aX 2 OO rfl (C3 rfl) λ rB _ Gm=>?_))⟩
 have Gm:=Gm.perm (L':=[(pa,SW m5 (t+1+1+(1+d1)+1+1)),(c2,SV [((sS,w1),a1),((sS,[x2]),a2),((sT,w3),a3)])]++[(a1,.list (w1.map .str)),(a2,.list ([x2].map .str)),(e1,.list []),(e2,.list [.str sA]),(e3,.list [.ref e1,.ref e2])]) (R':=[]) (.cons _ (.swap ..))
 refine Gm.keep λ Gp E0 Gl gB=>?_
 have i3:Og Gp [((sS,w1),a1),((sS,[x2]),a2),((sT,w3),a3)]:=⟨λ x hx=>by
  rcases F8.mp hx with rfl|hx;exact gB _ (.head _)
  rcases F8.mp hx with rfl|hx;exact gB _ (.tail _ (.head _))
  rewrite[D5.mp hx]
  refine gB (a3,.list (w3.map .str)) (H0 _ (.tail _ (.tail _ ?_)))
  exact H0 [(e3,PO.list [.ref e1,.ref e2])] g2⟩
 have zt:t+1+1+(1+d1)+1+1<=110:=by lia
 have lw:∀rest:xL,(rest=[]∨∃l w a,rest=[((l,w),a)]∧(l=sS∨l=sT)∧w.length<=3∧∀y∈w,y∈W4)->Yp ([((sS,w1),a1),((sS,[x2]),a2),((sT,w3),a3)]++rest):=λ rest h=>⟨a1,w1,a2,x2,a3,w3,rest,rfl,by lia,g3,λ y hy=>(G9.mp hy).elim (k1 y) λ h=>(F8.mp h).elim (λ e=>e▸kx) (g4 y),h⟩
 clear gB Gm OO L9 L8 L7 L6 L5 L4 L3 L2 L1 g2
 generalize t+1+1+(1+d1)+1+1=t5 at Gl zt
 have o9:[((sS,w1),a1),((sS,[x2]),a2),((sT,w3),a3)].length<=3:=D7 _
 generalize [((sS,w1),a1),((sS,[x2]),a2),((sT,w3),a3)]=b3 at Gl i3 lw o9
 refine Z2 (H7 (p1 rfl) (aQ (Z1 (λ v=>[.ref pa,C0 more,.ref c2,v 3,v 4]) (l:=List.range more) (f:=C0) (λ pre _ B9=>∃(τ:PH) (m t:Nat) (rest:xL),Ext Gp τ∧t<=110+10*pre.length∧Led τ B9 [(pa,SW m t),(c2,SV (b3++rest))] []∧Og τ (b3++rest)∧rest.length=pre.length∧∀x∈rest,(x.1.1=sS∨x.1.1=sT)∧x.1.2.length<=3∧∀y∈x.1.2,y∈W4) rfl (fJ (A9 (M8 hm) (by decide))) ⟨Gp,m5,t5,[],.refl _,zt,by rw[C9];exact Gl,by rw[C9];exact i3,rfl,λ _ h=>(nomatch h)⟩ ?_ ?_)))
 ·intro pre i post u FS R hl hQ;intros hQ τ hZ;intros hZ m6 Q0;intros Q0 Vm P4;intros P4 rest fU;delta fU E1 z6 L hI zr hr;intro hR
  have hp:=(P5 hl).1
  rw[D9]at hp
  have cq:(pre++[i]).length=pre.length+1:=B0
  rw[cq]at hR
  have zb:(b3++rest).length<=2^24:=by rw[B0];lia
  refine K1 (v_sub (P2 (x:=.tup ([sS,sT].map .str)) rfl (H7 (I9 rfl (p1 rfl)) (pG (n:=n+1) (many:=2) P L (by lia) (by decide) λ d m7 Op hd L=>⟨.str ([sS,sT].getD d sD),fQ (V5 (W5 sD hd)),N4 (T0 rfl (N9 (L.get 1 rfl) _) (F9 (dM (F9 (P2 rfl (F9 (T5 (F9 (P2 rfl (F9 (H7 (I9 rfl (p1 rfl)) (pG (n:=n+1) (many:=4) P L (by lia) (by decide) λ d4 m8 Iw fg L=>M0 (RT (n:=n) (len:=d4) P L (by lia) (by lia) λ a4 m9 w4 Oo e4 k4 L=>M0 (M0 (aX 1 L rfl (by rw[A8];exact zb) λ Bq _ L=>?_)))))))))))))))⟩))))
  have VC:[sS,sT].getD d sD=sS∨[sS,sT].getD d sD=sT:=Zp (C:=λ d=>[sS,sT].getD d sD=sS∨[sS,sT].getD d sD=sT) hd (.inl rfl) (.inr rfl)
  generalize [sS,sT].getD d sD=l4 at L VC ⊢
  refine Led.keep (L:=[(pa,SW m9 (Vm+1+1+d4)),(c2,SV (b3++(rest++[((l4,w4),a4)])))]) (X:=[(a4,.list (w4.map .str))]) (R:=[]) ?_ λ IF E2 L gB=>s_end (hR .next _ _ trivial trivial ⟨IF,m9,_,rest++[((l4,w4),a4)],E1.trans E2,by lia,L,?_,?_,T8 hr ⟨VC,by rw[e4];lia,k4⟩⟩ rfl)
  ·rw[<-C6]
   show Led τ Bq [_,(c2,.list (List.map _ (_++[_]))),_] _
   rw[Q5];exact L
  ·rw[<-C6]
   exact⟨T8 (λ x hx=>E2 _ _ (hI.r x hx)) (gB _ (.head _))⟩
  ·rw[B0,zr];rfl
 ·intro u FS hQ;intros hQ τ hZ;intros hZ m6 Q0;intros Q0 Vm P4;intros P4 rest fU;delta fU E1 z6 L hI zr hr
  rw[D9]at zr z6
  refine X8 rfl (q c2 τ m6 Vm (b3++rest) FS (by lia) (lw rest ?_) (E0.trans E1) hI L)
  clear L hI
  cases rest with
  |nil=>exact .inl rfl
  |cons x r=>cases r with
   |nil=>exact .inr ⟨x.1.1,x.1.2,x.2,rfl,(hr _ (.head _)).1,(hr _ (.head _)).2,(hr _ (.head _)).3⟩
   |cons x' r=>rw[H5,H5]at zr;lia
end
def PH.off(σ:PH)(a:Addr):PH:=λ b=>if b=a then none else σ b
theorem PH.AV(σ:PH)(a:Addr):PH.off σ a a=none:=F7 rfl
theorem PH.off_ne(σ:PH){a b:Addr}(h:b≠a):PH.off σ a b=σ b:=G0 h
theorem J9.frame{W:Wd}{n:Nat}{f:Value}{args:List PV}{σ:PH}{Q:PV->PH->Prop}{a:Addr}{o:PO}(ha:σ a=some o)(h:J9 W n f args (PH.off σ a) λ v CP=>CP a=none->Q v (CP.set a o)):J9 W n f args σ Q:=λ A s vs rm S rv=>by
 have S':SR W (PH.off σ a) s.heap:=⟨λ b p e=>S.obj b p (by
   by_cases c:b=a
   ·rw[c,PH.AV]at e;cases e
   ·rwa [PH.off_ne σ c]at e),S.keep,λ b n=>S.new b λ e=>n (by
   by_cases c:b=a
   ·rw[c];exact PH.AV ..
   ·rw[PH.off_ne σ c];exact e)⟩
 refine I7 (h A s vs rm S' rv) (λ v s' Ux=>?_) λ _ _ e=>e
 intros Ux x CP hZ;delta hZ hq r T P sm
 refine A0 (S.obj a o ha) λ ob hZ=>?_;delta hZ e1 e2
 have hZ:=P.bO a ob e1 (PH.AV ..);delta hZ p1 p2
 refine⟨x,CP.set a o,hq p2,r,⟨λ b p e=>?_,T.keep,λ b n=>?_⟩,⟨λ b p e n=>?_,λ b n=>?_⟩,sm⟩
 ·by_cases c:b=a
  ·rw[c,PH.J7]at e;cases e;rw[c];exact⟨ob,p1,e2.V7 (P.V7 S')⟩
  ·rw[PH.U0 _ _ c]at e;exact T.obj b p e
 ·by_cases c:b=a
  ·rw[c];exact S.new a (by rw[ha];exact Option.some_ne_none _)
  ·rw[PH.U0 _ _ c]at n;exact T.new b n
 ·have c:b≠a:=λ c=>by rw[c,ha]at n;cases n
  rw[PH.U0 _ _ c]
  exact P.bO b p e (by rw[PH.off_ne σ c];exact n)
 ·by_cases c:b=a
  ·rw[c,PH.J7];exact Option.some_ne_none _
  ·rw[PH.U0 _ _ c];exact P.IE b (by rw[PH.off_ne σ c];exact n)
theorem QT{ps qs:xL}(h:qs.map (·.1)=ps.map (·.1)):Q8 qs=Q8 ps∧bR qs=bR ps:=by
 have e1:∀(l k:List Str) (ps:xL),ps.foldl (λ l x=>x.1.2.foldl (kB k) l) l=(ps.map (·.1)).foldl (λ l x=>x.2.foldl (kB k) l) l:=λ l k ps=>by rw[List.foldl_map]
 have e2:∀(ns:List Str) (ps:xL),ps.map (λ x=>(⟨ns.idxOf x.1.1,x.1.2.map ns.idxOf⟩:Rl))=(ps.map (·.1)).map λ x=>⟨ns.idxOf x.1,x.2.map ns.idxOf⟩:=λ ns ps=>by rw[G2];rfl
 have e3:V3 [sS,sT] qs=V3 [sS,sT] ps:=by unfold V3;rw[e1,e1,h]
 have key:∀ps:xL,Q8 ps=(λ(ts:List Str) (rs:List (Str×List Str))=>(⟨MU ts,ts.length,⟨ts.length,[(MU ts).idxOf sS,0]⟩::rs.map λ x=>⟨(MU ts).idxOf x.1,x.2.map (MU ts).idxOf⟩⟩:Gr)) (V3 [sS,sT] ps) (ps.map (·.1)):=λ ps=>C7 (λ r=>(⟨MU (V3 [sS,sT] ps),(V3 [sS,sT] ps).length,⟨(V3 [sS,sT] ps).length,[(MU (V3 [sS,sT] ps)).idxOf sS,0]⟩::r⟩:Gr)) (e2 (MU (V3 [sS,sT] ps)) ps)
 constructor
 ·rw[key,key ps,e3,h]
 ·unfold bR
  have e4:∀ps:xL,ps.foldl (λ l x=>eJ l x.1.1) []=(ps.map (·.1)).foldl (λ l x=>eJ l x.1) []:=λ ps=>by rw[List.foldl_map]
  rw[e4,e4 ps,h]
theorem KR.same{ps qs:xL}(h:qs.map (·.1)=ps.map (·.1))(ok:KR ps):KR qs:=by
 have hZ:=QT h;delta hZ g1 g2
 have m:∀x∈qs,∃y,And (y∈ps) (y.1=x.1):=λ x hx=>D2.mp (h▸J2 (f:=(·.1)) hx)
 refine⟨?_,λ x hx=>?_,λ x hx=>?_,g2.trans ok.ER,λ x hx=>?_,g1▸ok.wf⟩
 ·have:=C7 List.length h
  rw[A8,A8]at this
  exact this▸ok.len
 ·refine A0 (m x hx) λ y hZ=>?_;delta hZ hy e;rw[<-e];exact ok.parts y hy
 ·refine A0 (m x hx) λ y hZ=>?_;delta hZ hy e;rw[<-e];exact ok.left y hy
 ·refine A0 (m x hx) λ y hZ=>?_;delta hZ hy e;rw[<-e,g1];exact ok.mem y hy
section
variable{W:Wd}(P:dR W)
include P
theorem Zq(hz:W.PL.length<=63):KW W 60 (.ref 927) [.ref W.xO] (λ _=>none) λ v _=>v=.bool true:=by
 refine P.j2 He 78 rfl (ρ:=[.ref W.xO,.M7,.M7,.M7,.M7,.M7,.M7,.M7]) rfl (K1 (H7 (p1 rfl) (Si (n:=58) P hz λ pa aL m L1=>K1 (H7 (p1 rfl) (Fn (n:=56) (t:=0) P L1 (K3 _) λ c2 IF m t ps W9 ht De E1 hI L2=>?_)))))
 have hZ:=Qe De;delta hZ ok nm oG
 refine Led.keep (L:=[(pa,SW m t)]) (X:=[(c2,SV ps)]) (R:=[]) L2 λ On E2 L3 gB=>?_
 have h2:=gB _ (.head _)
 have hI:=hI.ext E2
 clear gB L2 L1 E2 E1
 have Xo:=L3.ext _ _ h2
 refine K1 (T5 (F9 (jH (P2 rfl ⟨_,qT (l:=ps) (f:=λ x=>.tup (Hg x)) Xo ok.len rfl,comp_map (λ pre acc B9=>∃qs:xL,acc=qs.map (λ x=>PV.tup (Hg x))∧qs.map (·.1)=pre.map (·.1)∧Ext W9 B9∧∀x∈qs,W9 x.2=none∧B9 x.2=some (.list (x.1.2.map .str))) ⟨[],rfl,rfl,.refl _,λ _ h=>(nomatch h)⟩ ?_ ?_⟩))))
 ·intro pre x post acc Y9 R hl hQ;intros hQ qs hZ;obtain rfl:=hZ.1;delta hZ hZ e1 E hq;intro hR
  have hx:=(P5 hl).2
  have w7:=(L3.ext.trans E) _ _ (hI.r x hx)
  refine⟨[.str x.1.1,.ref x.2],rfl,uT rfl (dM (F9 (P2 rfl (F9 (H7 (p1 rfl) (pH w7 (by rw[A8];exact A9 (ok.parts x hx) (by decide)) λ c hc=>M0 (hR (some (.tup (Hg (x.1,c)))) _ ?_ ⟨qs++[(x.1,c)],?_,?_,E.trans (Ext.new hc _),T8 (λ y hy=>⟨(hq y hy).1,Ext.new hc _ _ _ (hq y hy).2⟩) ⟨E.none hc,PH.J7 ..⟩⟩)))))))⟩
  ·exact((E.trans (Ext.new hc _)) _ _ Xo).trans Xo.symm
  ·rw[Q5]
  ·rw[Q5,Q5,e1]
 intro _ Y9 hQ;intros hQ qs hZ;obtain rfl:=hZ.1;delta hZ hZ e1 E hq;intro c3 CT
 have E':=E.trans (Ext.new CT (SV qs))
 have h3:=PH.J7 Y9 c3 (SV qs)
 have hq:∀x∈qs,W9 x.2=none∧(Y9.set c3 (SV qs)) x.2=some (.list (x.1.2.map .str)):=λ x hx=>⟨(hq x hx).1,Ext.new CT _ _ _ (hq x hx).2⟩
 have n3:=E.none CT
 generalize Y9.set c3 (SV qs)=bM at E' h3 hq ⊢
 have L4:=L3.grow E'
 have a9:=L4.get 0 rfl
 have Nr:=L3.get 0 rfl
 have pn:=L3.new _ (.head _)
 have ne:∀{b},W9 b=none->b≠pa:=λ h e=>by rw[e,Nr]at h;cases h
 have hP:Sy (PH.off bM pa) c3 qs:=⟨(PH.off_ne bM (ne n3)).trans h3,λ x hx=>(PH.off_ne bM (ne (hq x hx).1)).trans (hq x hx).2⟩
 have Eo:Ext On (PH.off bM pa):=λ b o e=>by
  have c:b≠pa:=λ c=>by rw[c]at e;exact Option.some_ne_none _ (e.symm.trans pn)
  rw[PH.off_ne bM c];exact L4.ext _ _ e
 refine M0 (J9.frame a9 (Fk (n:=56) P (ok.same e1) hP λ g UX E3 hG hn=>?_))
 have L5:Led UX _ [(pa,SW m t)] []:=(Led.start UX).alloc hn _
 generalize UX.set pa (SW m t)=cI at L5 ⊢
 rw[(QT e1).1]at hG
 have h2:=(Eo.trans E3) _ _ h2
 have hI:=hI.ext (Eo.trans E3)
 have w:=ok.wf
 clear L4 L3 hP hq h3 E' E e1 a9 Nr pn ne Eo n3
 generalize Q8 ps=G at hG w nm oG
 refine K1 (T5 (F9 (P2 rfl (F9 (DP (H7 (I9 rfl (p1 rfl)) (pG (n:=58) (many:=2) P L5 (by lia) (by decide) λ d m6 eM hd L6=>P2 rfl ⟨decide ((d:Int)=1),rfl,M0 (Fq (n:=51) P w (hG.ext L6.ext) λ T A D N eX E7 hN hT=>K1 (H7 (p1 rfl) (Fp (n:=51) P w ((hG.ext L6.ext).ext E7) λ V B N' qC E8 Ny hV=>?_)))⟩)))))))
 obtain rfl:=hN.uniq Ny
 have Uv:=(L6.ext.trans E7).trans E8
 have hT:=hT.ext E8
 have hG:=hG.ext Uv
 have h2:=Uv _ _ h2
 have hI:=hI.ext Uv
 have au:=uJ w hN
 have zl:=ok.len
 generalize G.sG N=S at hT hV au
 refine K1 (O6 (bQ (F9 (dM (F9 (P2 rfl (F9 (K7 (xs:=[.str sS,.str (oS "$end")]) (Led.start qC) rfl λ a IG L9=>M0 (M0 λ b hb=>P2 rfl (gH (L9.alloc hb (.list [.tup [.str acc,.ref a]])) (PH.J7 ..) ((L9.alloc hb _).ext _ _ h2) ?_ λ c iW OO=>?_))))))))))
 ·rw[A8];show 1+_<=_;lia
 have Az:=OO.ext
 have hO:Ni iW c ((acc,a,[sS,oS "$end"])::ps.map λ x=>(x.1.1,x.2,x.1.2)):=by
  refine⟨(OO.get 2 rfl).trans ?_,λ p hp=>?_⟩
  ·rw[I6,G2];rfl
  ·rcases F8.mp hp with rfl|hp
   ·exact OO.get 0 rfl
   ·refine A0 (D2.mp hp) λ x hZ=>?_;generalize hZ.1=hx;clear hp;clear hp;obtain rfl:=hZ.2;try clear hZ
    exact Az _ _ (hI.r x hx)
 have oG:=oG a
 have hT:=hT.ext Az
 have hG:=hG.ext Az
 have hV:=hV.ext Az
 clear OO L9 hb Uv h2 hI CT
 refine Z2 (T5 (F9 (J1 rfl (hT.ob.H2 "state_count" rfl rfl) rfl (Io (n:=58) P hT (M0 (aQ (Z1 (λ v=>[.ref W.xO,.ref pa,.ref c2,.ref g,.ref T,.ref V,.ref c,v 7]) (l:=List.range S.length) (f:=C0) (λ _ _ B9=>Ext iW B9) rfl (fJ (A9 au.len (by decide))) (.refl _) ?_ ?_)))))))
 ·intro pre k post u oA R hl E hR
  have hZ:=P9 hl;delta hZ hZ hk
  exact iH (zM (Zc (H7 (I9 rfl (I9 rfl (I9 rfl (p1 rfl)))) (KG (n:=55) P w nm (hG.ext E) (hV.ext E) (hT.ext E) au (hO.ext E) oG hk λ rB Ay=>⟨true,rfl,(λ h=>nomatch h),λ _=>O7 (s_end (hR .next _ _ trivial trivial (E.trans Ay) rfl))⟩))))
 ·intro u oA E
  have hV:=hV.ext E
  have hT:=hT.ext E
  refine W3 (DP (P2 (V8 (D8 (D8 rfl (hV.ob.fld _)) (hV.ia.ob.fld _)) (len_list hV.ia.sl (k:=S.length) ?_)) (J1 rfl (hT.ob.H2 "state_count" rfl rfl) rfl (Io (n:=58) P hT ⟨true,C7 some (H3 rfl),rfl⟩))))
  rw[A8,A8,hV.ia.len]
end
end Mine.Internal
end
theorem PySem.Challenge.cw_nn0417_01_holds : PySem.Challenge.rw_nn0417_01.Holds :=
 Mine.Internal.Top.fin fun _ => Mine.Internal.Zq
