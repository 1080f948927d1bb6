import PyProof.Rows.All
import PyProof.Cells
import PyProof.CompFree
import PyProof.Rows.EqNone
import PyProof.ExcBaseAll.Exception
import PyProof.ExcAttrAll.Exception
import PyProof.ExcInit
import PyProof.InstStoreFacts
import PyProof.RulesAs
import PyProof.Rows.ListMulArg
import PyProof.SliceMore
import KE.KEqSeq
import KE.KRevSl
import KE.KSuper
import Wide.FinOn
import OpenK.AllK
import Wide.All
import Lean
import PySem.Challenge.RW_nz0413_01
open PySem PySem.W PyProof.Rows PySem.Calls
set_option Elab.async false
set_option maxRecDepth 1000000
set_option maxHeartbeats 0
set_option linter.all false
set_option genSizeOf false
set_option genInjectivity false
namespace Mine.Internal
section
set_option compiler.extract_closed false
open Lean
abbrev TT := TSyntax `tactic
abbrev MT := MacroM TT
def mkE (d:Syntax):MacroM Syntax:=do
  let .original .. := d.getHeadInfo | Macro.throwUnsupported
  let e := d.setHeadInfo .none
  let c := d[1].getKind
  if d[0].getPos?.isNone && (c == `Lean.Parser.Command.definition || c == `Lean.Parser.Command.abbrev) then
    return e.setArg 0 (e[0].setArg 4 (mkNullNode #[.node .none `Lean.Parser.Command.noncomputable #[mkAtom "noncomputable"]]))
  return e
def mkF (a b:TT):MT:=`(tactic| first | $a:tactic | $b:tactic)
def mkX (a b:TT):MT:=`(tactic| ($a:tactic; $b:tactic))
def mkD (e:Term):MT:=`(tactic| exact $e)
def mkJ (n:Name)(e:Syntax):Term:=Syntax.mkApp (mkIdent n) #[⟨e⟩]
def mkW (n:Name)(e:Syntax):MT:=do `(tactic| refine $(Syntax.mkApp (mkIdent n) #[⟨e⟩, ← `(?_)]))
def mkL (e:Syntax):MT:=`(tactic| try clear $(⟨e⟩):ident)
def mkZ (b:Bool):MT:=if b then `(tactic| intro $(mkIdent `zz):ident) else `(tactic| subst $(mkIdent `zz):ident)
def mkA:List (MT) → MT
  | [] => `(tactic| fail)
  | a :: l => do mkF (← a) (← mkA l)
def mkV (a r:Term):List Term → List String → List Term
  | st, [] => st
  | st, w :: l =>
    let w := if w.front == '!' then (w.drop 1).toString else w
    let c := w.front
    mkV a r (if c == 'a' then a :: st else if c == 'r' then r :: st else if c == '_' then ⟨.node .none `Lean.Parser.Term.hole #[mkAtom "_"]⟩ :: st
      else if c == 'k' then ⟨(mkIdent `rfl).raw⟩ :: st
      else Syntax.mkApp (mkIdent (w.drop 1).toString.toName) (st.take (c.toNat - 48)).reverse.toArray :: st.drop (c.toNat - 48)) l
def mkT (s:String):MT:=do
  let a ← `((by assumption))
  let r ← `((by with_unfolding_all rfl))
  mkA ((s.splitOn ";").map fun s => match mkV a r [] (s.splitOn " ") with
    | e :: _ => if s.front == '!' then `(tactic| apply $e) else mkD e
    | _ => `(tactic| fail))
def mkI (s:String):MT:=do
  if s == "f" then mkT "0hkF;k 1hkN;k 1Or.inl;k 1Or.inr" else if s == "k" then `(tactic| with_unfolding_all kernel_rfl) else do
    let t ← mkT "0ROs.z;0RVs.z;0RFs.z;0FrR.z;0RV.n;0RV.b;0RV.i;0RV.s;0RV.v;0RO.d;0RO.a;k _ 2RVs.parts;_ 1RVs.les;_ 1RVs.nms;_ 1RVs.ints;k _ 2RV.part;_ 1RV.bare;!0ROs.k;!0RO.l;!0RO.y;!0RO.x;!0RVs.k;!0RFs.k;!0RV.t;k 1RV.o;_ 1RVs.les _ 1RV.le 2RVs.snoc;_ 1RVs.nms _ 1RV.nm 2RVs.snoc;!0RO.f;!k 1FrR.k"
    `(tactic| repeat' $t:tactic)
def mkQ (q:TSyntax `rcasesPat):MT :=
  let k := q.raw.getKind
  if k == `Lean.Parser.Tactic.rcasesPat.one then `(tactic| rintro $q:rcasesPat)
  else if k == `Lean.Parser.Tactic.rcasesPat.ignore then `(tactic| intro _)
  else if k == `Lean.Parser.Tactic.rcasesPat.tuple then do mkX (← mkZ true) (← `(tactic| obtain $q:rcasesPat := $(mkIdent `zz):ident))
  else Macro.throwUnsupported
def mkM:TT → List (TSyntax `rcasesPat) → MT
  | t, [] => pure t
  | t, q :: l => do mkM (← mkX t (← mkQ q)) l
def mkO (e:Term)(qs:List (TSyntax `rcasesPat)):MT:=do
  if qs.length < 2 then Macro.throwUnsupported
  let l := if qs.length > 7 then 6 else qs.length
  let n := if qs.length > 7 then 7 else qs.length
  let t ← mkA ((List.range n).map fun k => mkW (.mkSimple ("e" ++ toString k ++ "_" ++ toString n)) e)
  let t ← if e.raw.isIdent then do mkX t (← mkL e) else pure t
  if qs.length > 7 then
    let rs : List (TSyntax ``Lean.Parser.Tactic.rcasesPatLo) := (qs.drop l).map fun (q : TSyntax `rcasesPat) => ⟨.node .none ``Lean.Parser.Tactic.rcasesPatLo #[.node .none ``Lean.Parser.Tactic.rcasesPatMed #[mkNullNode #[q]], mkNullNode]⟩
    mkM t (qs.take l ++ [← `(rcasesPat| ⟨$[$rs.toArray],*⟩)])
  else mkM t qs
def mkU (h:Ident) (c:String):Nat → MT
  | 0 => do mkX (← mkW (.mkSimple c) h) (← `(tactic| clear $h:ident))
  | n+1 => do mkX (← mkU h c n) (← mkX (← mkZ true) (← mkZ false))
def mkC (p:Bool) (h:Ident):MT :=
  mkA (["q0", "q1", "q2", "q3"].map (fun c => mkD (mkJ (.mkSimple c) h)) ++ (if p then ["p6", "p5", "p4"].map (mkU h · 0) else []) ++ [mkU h "q7" 5, mkU h "q6" 4, mkU h "q5" 3, mkU h "q4" 2] ++ (if p then [] else [`(tactic| induction $h:ident)]))
def mkP (t:Syntax)(as:TSyntaxArray ``Lean.Parser.Tactic.inductionAlt):MT:=do
  let e : Term := ⟨t[1]⟩
  let z := mkIdent `zz
  if t[0].isNone then
    if e.raw.isIdent || e.raw.getKind == `Lean.Parser.Term.paren then Macro.throwUnsupported
    mkX (← `(tactic| generalize $e = $z)) (← `(tactic| induction $z:ident with $as:inductionAlt*))
  else mkX (← `(tactic| generalize $(⟨t[0][0][0]⟩):ident : $e = $z)) (← `(tactic| induction $z:ident with $as:inductionAlt*))
def mkB (b:Bool)(c:Ident)(t v:Term):MacroM Syntax:=if b then `(command| noncomputable def $c := $v) else `(command| noncomputable def $c : $t := $v)
structure MN where
  (tup ty sf sy : Term) (zs : List Term)
def mkG (st:Term):Term → List (Ident × Term) → MacroM MN
  | _, [] => Macro.throwUnsupported
  | q, (x, y) :: l => do
    let last := l.isEmpty
    let d := if last then q else mkJ `Prod.fst q
    let r : MN ← if last then do pure ⟨x, y, st, ← `(Prop), []⟩ else mkG st (mkJ `Prod.snd q) l
    pure ⟨if last then x else Syntax.mkApp (mkIdent `Prod.mk) #[x, r.tup], if last then y else Syntax.mkApp (mkIdent `Prod) #[y, r.ty], ← `(fun $x => $(r.sf)), ← `($y → $(r.sy)), d :: r.zs⟩
def mkH:Term → List Ident → MacroM (List Syntax)
  | _, [] => pure []
  | q, x :: l => do
    let d := if l.isEmpty then q else mkJ `Prod.fst q
    pure ((← mkB true x d d) :: (← mkH (mkJ `Prod.snd q) l))
def mkK (t:Term):List Syntax → MacroM Term
  | [] => pure t
  | b :: l => do `($(⟨b⟩):bracketedBinder → $(← mkK t l))
def mkY (b:Syntax)(i:Nat):List Ident:=b[i].getArgs.toList.map (⟨·⟩)
def mkN (n:Ident)(bs:List Syntax)(t v:Term):MacroM Syntax:=do
  let cl := bs.takeWhile (·.getKind == ``Lean.Parser.Term.implicitBinder)
  let rs := bs.drop cl.length
  let ps : List (Ident × Term) := cl.flatMap fun b => (mkY b 1).map fun x => (x, ⟨b[2][1]⟩)
  let zt := mkIdent `zt
  let z := mkIdent `z
  let g ← mkG (← mkK t rs) z ps
  let w ← `(fun ($z : $(g.ty)) => $(Syntax.mkApp (mkIdent (n.getId ++ `zS)) g.zs.toArray))
  let P := Syntax.mkApp (mkIdent (n.getId ++ `zS)) ((ps.map fun p => (⟨p.1.raw⟩ : Term)).toArray)
  let ns := (rs.flatMap (mkY · 1)).toArray
  let cb : Array (TSyntax ``Lean.Parser.Term.bracketedBinder) := (cl.map (⟨·⟩)).toArray
  let h ← mkH zt (ps.map (·.1))
  pure (mkNullNode (#[(← `(command| namespace $n)).raw, ← mkB false (mkIdent `zS) g.sy g.sf,
    ← mkB true zt t (← `($(mkIdent `E1) $w ⟨by repeat' first | exact default | exact True | exact {} | intro _ | constructor⟩))] ++ h.toArray ++
    #[(← `(command| theorem $(mkIdent `zP) : $P := by (intro $[$ns:ident]*; exact $v))).raw, (← `(command| end $n)).raw,
      ← `(command| theorem $n:ident $[$cb:bracketedBinder]* : $P := $(mkIdent `A1) (S := $w) $(mkIdent (n.getId ++ `zP)) $(g.tup))]))
section
variable{a1 a2 a3 a4 a5 a6:Sort _} {G:Prop}
section
variable{A1:a1->Prop} {A2 A3 A4 A5:Prop}
theorem aa:type_of% @wpAny_bind:=@wpAny_bind
theorem ac:type_of% @Option.some.inj:=@Option.some.inj
theorem ae:type_of% @Heap.get?_push_of_some:=@Heap.get?_push_of_some
theorem af:type_of% @List.length_map:=@List.length_map
theorem ag:type_of% @decide_eq_false:=@decide_eq_false
theorem ai:type_of% @List.length_append:=@List.length_append
theorem aj:type_of% @List.mem_singleton:=@List.mem_singleton
theorem ak:type_of% @wpAny_execs_cons:=@wpAny_execs_cons
theorem am:type_of% @beq_iff_eq:=@beq_iff_eq
theorem ao:type_of% @Nat.le_refl:=@Nat.le_refl
theorem aq:type_of% @Option.map_eq_some_iff:=@Option.map_eq_some_iff
theorem au:type_of% @Nat.le_succ:=@Nat.le_succ
theorem av:type_of% @decide_eq_true:=@decide_eq_true
theorem aw:type_of% @List.append_assoc:=@List.append_assoc
theorem ax:type_of% @Nat.le_trans:=@Nat.le_trans
theorem ay:type_of% @Heap.lt_size:=@Heap.lt_size
theorem az:type_of% @congrArg:=@congrArg
theorem aA:type_of% @Nat.le_add_right:=@Nat.le_add_right
theorem aB:type_of% @Heap.get?_push_size:=@Heap.get?_push_size
theorem aC:type_of% @Nat.succ_le_succ:=@Nat.succ_le_succ
theorem aD:type_of% @List.mem_cons:=@List.mem_cons
theorem aE:type_of% @wpAny_pure:=@wpAny_pure
theorem aF:type_of% @spliced_more:=@spliced_more
theorem aG:type_of% @Nat.le_succ_of_le:=@Nat.le_succ_of_le
theorem aH:type_of% @Nat.lt_of_lt_of_le:=@Nat.lt_of_lt_of_le
theorem aI:type_of% @List.size_toArray:=@List.size_toArray
theorem aJ:type_of% @Nat.zero_le:=@Nat.zero_le
theorem aK:type_of% @wpAny_mono:=@wpAny_mono
theorem aL:type_of% @Heap.get?_update_other:=@Heap.get?_update_other
theorem aM:type_of% @wpAny_execs_nil:=@wpAny_execs_nil
theorem aN:type_of% @Calls.spliced_nil:=@Calls.spliced_nil
theorem aO:type_of% @List.prefix_refl:=@List.prefix_refl
theorem aP:type_of% @Nat.eq_of_beq_eq_true:=@Nat.eq_of_beq_eq_true
theorem aQ:type_of% @List.append_nil:=@List.append_nil
theorem aR:type_of% @wpAny_Constant_int:=@wpAny_Constant_int
theorem aS:type_of% @of_decide_eq_true:=@of_decide_eq_true
theorem aT:type_of% @List.all_eq_true:=@List.all_eq_true
theorem aU:type_of% @wpAny_holding:=@wpAny_holding
theorem aV:type_of% @Nat.le_of_ble_eq_true:=@Nat.le_of_ble_eq_true
theorem aW:type_of% @List.lookup_cons:=@List.lookup_cons
theorem aX:type_of% @Nat.lt_succ_self:=@Nat.lt_succ_self
theorem aY:type_of% @Nat.le_of_eq:=@Nat.le_of_eq
theorem aZ:type_of% @Nat.le_of_lt:=@Nat.le_of_lt
theorem a8:type_of% @List.filterMap_cons:=@List.filterMap_cons
theorem a9:type_of% @Bool.and_eq_true_iff:=@Bool.and_eq_true_iff
theorem ba:type_of% @wpAny_standAt:=@wpAny_standAt
theorem bc:type_of% @Prod.mk.injEq:=@Prod.mk.injEq
theorem bf:type_of% @wpAny_loadPart_at:=@wpAny_loadPart_at
theorem bj:type_of% @List.mem_append:=@List.mem_append
theorem bn:type_of% @List.map_append:=@List.map_append
theorem bu:type_of% @List.reverse_cons:=@List.reverse_cons
theorem bv:type_of% @Nat.le_of_add_right_le:=@Nat.le_of_add_right_le
theorem bw:type_of% @Nat.lt_of_le_of_lt:=@Nat.lt_of_le_of_lt
theorem bx:type_of% @Nat.add_le_add_left:=@Nat.add_le_add_left
theorem bz:type_of% @List.replicate_succ:=@List.replicate_succ
theorem bA:type_of% @Nat.le_of_not_lt:=@Nat.le_of_not_lt
theorem bB:type_of% @Heap.size_push:=@Heap.size_push
theorem bC:type_of% @beq_self_eq_true:=@beq_self_eq_true
theorem bD:type_of% @Nat.lt_irrefl:=@Nat.lt_irrefl
theorem bF:type_of% @Nat.add_right_comm:=@Nat.add_right_comm
theorem bG:type_of% @Nat.ne_of_lt:=@Nat.ne_of_lt
theorem bH:type_of% @wpAny_Call_Name_kw:=@wpAny_Call_Name_kw
theorem bI:type_of% @List.length_nil:=@List.length_nil
theorem bJ:type_of% @List.length_cons:=@List.length_cons
theorem bK:type_of% @beq_eq_false_iff_ne:=@beq_eq_false_iff_ne
theorem bL:type_of% @List.length_reverse:=@List.length_reverse
theorem bM:type_of% @Heap.get?_update_self:=@Heap.get?_update_self
theorem bN:type_of% @wpAny_assign_Name:=@wpAny_assign_Name
theorem bO:type_of% @Nat.succ_add_eq_add_succ:=@Nat.succ_add_eq_add_succ
theorem bP:type_of% @List.flatten_cons:=@List.flatten_cons
theorem bQ:type_of% @Nat.add_assoc:=@Nat.add_assoc
theorem bR:type_of% @Option.any_eq_true:=@Option.any_eq_true
theorem bS:type_of% @Nat.zero_add:=@Nat.zero_add
theorem bT:type_of% @Array.getElem?_eq_some_iff:=@Array.getElem?_eq_some_iff
theorem bU:type_of% @Heap.SameBut.update:=@Heap.SameBut.update
theorem bV:type_of% @wpAny_of_eq:=@wpAny_of_eq
theorem bW:type_of% @List.getElem?_eq_none_iff:=@List.getElem?_eq_none_iff
theorem bX:type_of% @Int.ofNat_lt:=@Int.ofNat_lt
theorem bY:type_of% @wpAny_allTrue_Or_cons:=@wpAny_allTrue_Or_cons
theorem bZ:type_of% @wpAny_isTrue_Compare1:=@wpAny_isTrue_Compare1
theorem b8:type_of% @Bool.false_ne_true:=@Bool.false_ne_true
theorem b9:type_of% @List.prefix_append:=@List.prefix_append
theorem cc:type_of% @List.length_take:=@List.length_take
theorem cj:type_of% @wpAny_loadName_local:=@wpAny_loadName_local
theorem cq:type_of% @Value.type.inj:=@Value.type.inj
theorem cu:type_of% @evalArgs_plain:=@evalArgs_plain
theorem cz:type_of% @wpAny_truthy_bool:=@wpAny_truthy_bool
theorem cA:type_of% @wpAny_Assign_Name:=@wpAny_Assign_Name
theorem cB:type_of% @Nat.not_lt_zero:=@Nat.not_lt_zero
theorem cC:type_of% @wpAny_Assign_stores:=@wpAny_Assign_stores
theorem cD:type_of% @wpAny_field:=@wpAny_field
theorem cE:type_of% @PyProof.Rows.callWith_type:=@PyProof.Rows.callWith_type
theorem cF:type_of% @Nat.not_lt:=@Nat.not_lt
theorem cG:type_of% @List.take_length:=@List.take_length
theorem cH:type_of% @wpAny_Constant_str:=@wpAny_Constant_str
theorem cI:type_of% @wpAny_typeLookup_exc:=@wpAny_typeLookup_exc
theorem cJ:type_of% @Nat.le_of_succ_le:=@Nat.le_of_succ_le
theorem cK:type_of% @Array.size_append:=@Array.size_append
theorem cL:type_of% @Nat.sub_lt_sub_left:=@Nat.sub_lt_sub_left
theorem cN:type_of% @wpAny_Tuple_spliced:=@wpAny_Tuple_spliced
theorem cO:type_of% @List.of_mem_zip:=@List.of_mem_zip
theorem cP:type_of% @List.nil_append:=@List.nil_append
theorem cQ:type_of% @wpAny_BinOp:=@wpAny_BinOp
theorem cR:type_of% @wpAny_call:=@wpAny_call
theorem e0_2{A1:Prop}(h:A1/\A2)(k:A1->A2->G):G:=k h.1 h.2
theorem e1_2(h:∃x1,A1 x1)(k:∀x1,A1 x1->G):G:=h.elim λx1 h=>k x1 h
theorem e0_3{A1:Prop}(h:A1/\A2/\A3)(k:A1->A2->A3->G):G:=k h.1 h.2.1 h.2.2
theorem e1_3{A2:a1->Prop}(h:∃x1,A1 x1/\A2 x1)(k:∀x1,A1 x1->A2 x1->G):G:=h.elim λx1 h=>k x1 h.1 h.2
theorem e2_3{A1:a1->a2->Prop}(h:∃x1 x2,A1 x1 x2)(k:∀x1 x2,A1 x1 x2->G):G:=h.elim λx1 h=>h.elim λx2 h=>k x1 x2 h
theorem e0_4{A1:Prop}(h:A1/\A2/\A3/\A4)(k:A1->A2->A3->A4->G):G:=k h.1 h.2.1 h.2.2.1 h.2.2.2
theorem e1_4{A2 A3:a1->Prop}(h:∃x1,A1 x1/\A2 x1/\A3 x1)(k:∀x1,A1 x1->A2 x1->A3 x1->G):G:=h.elim λx1 h=>k x1 h.1 h.2.1 h.2.2
theorem e2_4{A1 A2:a1->a2->Prop}(h:∃x1 x2,A1 x1 x2/\A2 x1 x2)(k:∀x1 x2,A1 x1 x2->A2 x1 x2->G):G:=h.elim λx1 h=>h.elim λx2 h=>k x1 x2 h.1 h.2
theorem e3_4{A1:a1->a2->a3->Prop}(h:∃x1 x2 x3,A1 x1 x2 x3)(k:∀x1 x2 x3,A1 x1 x2 x3->G):G:=h.elim λx1 h=>h.elim λx2 h=>h.elim λx3 h=>k x1 x2 x3 h
theorem e0_5{A1:Prop}(h:A1/\A2/\A3/\A4/\A5)(k:A1->A2->A3->A4->A5->G):G:=k h.1 h.2.1 h.2.2.1 h.2.2.2.1 h.2.2.2.2
theorem e1_5{A2 A3 A4:a1->Prop}(h:∃x1,A1 x1/\A2 x1/\A3 x1/\A4 x1)(k:∀x1,A1 x1->A2 x1->A3 x1->A4 x1->G):G:=h.elim λx1 h=>k x1 h.1 h.2.1 h.2.2.1 h.2.2.2
theorem e2_5{A1 A2 A3:a1->a2->Prop}(h:∃x1 x2,A1 x1 x2/\A2 x1 x2/\A3 x1 x2)(k:∀x1 x2,A1 x1 x2->A2 x1 x2->A3 x1 x2->G):G:=h.elim λx1 h=>h.elim λx2 h=>k x1 x2 h.1 h.2.1 h.2.2
theorem e3_5{A1 A2:a1->a2->a3->Prop}(h:∃x1 x2 x3,A1 x1 x2 x3/\A2 x1 x2 x3)(k:∀x1 x2 x3,A1 x1 x2 x3->A2 x1 x2 x3->G):G:=h.elim λx1 h=>h.elim λx2 h=>h.elim λx3 h=>k x1 x2 x3 h.1 h.2
theorem e0_6{A1 A6:Prop}(h:A1/\A2/\A3/\A4/\A5/\A6)(k:A1->A2->A3->A4->A5->A6->G):G:=k h.1 h.2.1 h.2.2.1 h.2.2.2.1 h.2.2.2.2.1 h.2.2.2.2.2
theorem e1_6{A2 A3 A4 A5:a1->Prop}(h:∃x1,A1 x1/\A2 x1/\A3 x1/\A4 x1/\A5 x1)(k:∀x1,A1 x1->A2 x1->A3 x1->A4 x1->A5 x1->G):G:=h.elim λx1 h=>k x1 h.1 h.2.1 h.2.2.1 h.2.2.2.1 h.2.2.2.2
theorem e2_6{A1 A2 A3 A4:a1->a2->Prop}(h:∃x1 x2,A1 x1 x2/\A2 x1 x2/\A3 x1 x2/\A4 x1 x2)(k:∀x1 x2,A1 x1 x2->A2 x1 x2->A3 x1 x2->A4 x1 x2->G):G:=h.elim λx1 h=>h.elim λx2 h=>k x1 x2 h.1 h.2.1 h.2.2.1 h.2.2.2
theorem e3_6{A1 A2 A3:a1->a2->a3->Prop}(h:∃x1 x2 x3,A1 x1 x2 x3/\A2 x1 x2 x3/\A3 x1 x2 x3)(k:∀x1 x2 x3,A1 x1 x2 x3->A2 x1 x2 x3->A3 x1 x2 x3->G):G:=h.elim λx1 h=>h.elim λx2 h=>h.elim λx3 h=>k x1 x2 x3 h.1 h.2.1 h.2.2
theorem e4_6{A1 A2:a1->a2->a3->a4->Prop}(h:∃x1 x2 x3 x4,A1 x1 x2 x3 x4/\A2 x1 x2 x3 x4)(k:∀x1 x2 x3 x4,A1 x1 x2 x3 x4->A2 x1 x2 x3 x4->G):G:=h.elim λx1 h=>h.elim λx2 h=>h.elim λx3 h=>h.elim λx4 h=>k x1 x2 x3 x4 h.1 h.2
theorem e0_7{A1 A6 A7:Prop}(h:A1/\A2/\A3/\A4/\A5/\A6/\A7)(k:A1->A2->A3->A4->A5->A6->A7->G):G:=k h.1 h.2.1 h.2.2.1 h.2.2.2.1 h.2.2.2.2.1 h.2.2.2.2.2.1 h.2.2.2.2.2.2
theorem e1_7{A2 A3 A4 A5 A6:a1->Prop}(h:∃x1,A1 x1/\A2 x1/\A3 x1/\A4 x1/\A5 x1/\A6 x1)(k:∀x1,A1 x1->A2 x1->A3 x1->A4 x1->A5 x1->A6 x1->G):G:=h.elim λx1 h=>k x1 h.1 h.2.1 h.2.2.1 h.2.2.2.1 h.2.2.2.2.1 h.2.2.2.2.2
theorem e2_7{A1 A2 A3 A4 A5:a1->a2->Prop}(h:∃x1 x2,A1 x1 x2/\A2 x1 x2/\A3 x1 x2/\A4 x1 x2/\A5 x1 x2)(k:∀x1 x2,A1 x1 x2->A2 x1 x2->A3 x1 x2->A4 x1 x2->A5 x1 x2->G):G:=h.elim λx1 h=>h.elim λx2 h=>k x1 x2 h.1 h.2.1 h.2.2.1 h.2.2.2.1 h.2.2.2.2
theorem e3_7{A1 A2 A3 A4:a1->a2->a3->Prop}(h:∃x1 x2 x3,A1 x1 x2 x3/\A2 x1 x2 x3/\A3 x1 x2 x3/\A4 x1 x2 x3)(k:∀x1 x2 x3,A1 x1 x2 x3->A2 x1 x2 x3->A3 x1 x2 x3->A4 x1 x2 x3->G):G:=h.elim λx1 h=>h.elim λx2 h=>h.elim λx3 h=>k x1 x2 x3 h.1 h.2.1 h.2.2.1 h.2.2.2
theorem e4_7{A1 A2 A3:a1->a2->a3->a4->Prop}(h:∃x1 x2 x3 x4,A1 x1 x2 x3 x4/\A2 x1 x2 x3 x4/\A3 x1 x2 x3 x4)(k:∀x1 x2 x3 x4,A1 x1 x2 x3 x4->A2 x1 x2 x3 x4->A3 x1 x2 x3 x4->G):G:=h.elim λx1 h=>h.elim λx2 h=>h.elim λx3 h=>h.elim λx4 h=>k x1 x2 x3 x4 h.1 h.2.1 h.2.2
theorem e5_7{A1 A2:a1->a2->a3->a4->a5->Prop}(h:∃x1 x2 x3 x4 x5,A1 x1 x2 x3 x4 x5/\A2 x1 x2 x3 x4 x5)(k:∀x1 x2 x3 x4 x5,A1 x1 x2 x3 x4 x5->A2 x1 x2 x3 x4 x5->G):G:=h.elim λx1 h=>h.elim λx2 h=>h.elim λx3 h=>h.elim λx4 h=>h.elim λx5 h=>k x1 x2 x3 x4 x5 h.1 h.2
theorem e6_7{A1:a1->a2->a3->a4->a5->a6->Prop}(h:∃x1 x2 x3 x4 x5 x6,A1 x1 x2 x3 x4 x5 x6)(k:∀x1 x2 x3 x4 x5 x6,A1 x1 x2 x3 x4 x5 x6->G):G:=h.elim λx1 h=>h.elim λx2 h=>h.elim λx3 h=>h.elim λx4 h=>h.elim λx5 h=>h.elim λx6 h=>k x1 x2 x3 x4 x5 x6 h
end
end
section
variable{α:Type _} {a c b d j k n m l s x st:Nat} {G:Prop}
theorem q0{a:α}(h:none=some a):G:=nomatch h
theorem q1{a:α}(h:some a=none):G:=nomatch h
theorem q2(h:true=false):G:=nomatch h
theorem q3(h:false=true):G:=nomatch h
theorem q4{β:Type _}{a c:α}{b d:β}(h:some (a,b)=some (c,d))(k:a=c->b=d->G):G:=k (az (λz=>(z.getD (a,b)).1) h) (az (λz=>(z.getD (a,b)).2) h)
theorem q5{β γ:Type _}{a c:α}{b d:β}{e f:γ}(h:some (a,b,e)=some (c,d,f))(k:a=c->b=d->e=f->G):G:=q4 h λx y=>q4 (az some y) (k x)
theorem q6{β γ δ:Type _}{a c:α}{b d:β}{e f:γ}{i j:δ}(h:some (a,b,e,i)=some (c,d,f,j))(k:a=c->b=d->e=f->i=j->G):G:=q4 h λx y=>q5 (az some y) (k x)
theorem up{P:Nat->Prop}(h:n<k+1)(z:P k)(r:n<k->P n):P n:=(Nat.lt_or_eq_of_le (Nat.le_of_lt_succ h)).elim r λe=>e▸z
theorem up8{P:Nat->Prop}(h:n<8)(a:P 7)(b:P 6)(c:P 5)(d:P 4)(e:P 3)(f:P 2)(g:P 1)(i:P 0):P n:=
 up h a λh=>up h b λh=>up h c λh=>up h d λh=>up h e λh=>up h f λh=>up h g λh=>up h i λh=>absurd h (cB _)
theorem o40(ha:a<=m)(h:n=min (a+n - a) (m - a)):a+n<=m:=Nat.add_comm n a▸Nat.add_le_of_le_sub ha (ax (aY h) (Nat.min_le_right _ _))
theorem o41(h:l - s<=0):l<s+1:=Nat.lt_succ_of_le (Nat.le_of_sub_eq_zero (Nat.le_zero.mp h))
theorem o42(h:s<=l)(k:l<s+1):s=l:=Nat.le_antisymm h (Nat.le_of_lt_succ k)
theorem o43(h:¬l<s+1):1<=l - s:=Nat.sub_pos_of_lt (Nat.lt_of_succ_le (bA h))
theorem o44(h:l - s<=k+1):l - (s+1+j)<=k:=by
 rw[Nat.sub_le_iff_le_add] at h ⊢;exact ax h (by rw[bQ,Nat.add_comm 1 s];exact bx (aA _ _) k)
theorem o45(a:s+1+j<=l)(h:m<=l - (s+1+j)):m+1<=l - s:=Nat.le_sub_of_add_le (ax (by rw[bQ,Nat.add_comm 1 s];exact bx (aA _ _) m) (Nat.add_le_of_le_sub (ax (ao _) a) h))
theorem o46(h:l<n+1+s):l<n+(s+1+j):=by lia
theorem o47(h:s+(n+1)*(a+b+2)<=l):s+a+1+b+1+n*(a+b+2)<=l:=by rw[Nat.succ_mul] at h;lia
theorem o48(h:s+a+1+b+1+x<=l)(z:k<=a):s+k+x<=l:=by lia
theorem o49(a:s+k<=l)(b:1<=k)(h:m<=l - (s+k)):m+1<=l:=ax (bx (ax b (Nat.le_add_left k s)) m) (Nat.add_le_of_le_sub a h)
theorem o50(h:s+(n+1)*(a+b+c+2)<=l):s+a+b+1+c+1+n*(a+b+c+2)<=l:=by rw[Nat.succ_mul] at h;lia
theorem o51(h:s+a+b+1+c+1+x<=l)(z:k<=b):s+a+k+x<=l:=by lia
theorem o52{y:Nat}(h:a<=x)(k:b<=y)(z:Nat.ble (x+y) c=true):a+b<=c:=ax (Nat.add_le_add h k) (aV z)
@[elab_as_elim] theorem p4{α β:Type _}{P:α->β->Prop}{a c:α}{b d:β}(h:some (a,b)=some (c,d))(k:P a b):P c d:=q4 h λx y=>x▸y▸k
@[elab_as_elim] theorem p5{α β γ:Type _}{P:α->β->γ->Prop}{a c:α}{b d:β}{e f:γ}(h:some (a,b,e)=some (c,d,f))(k:P a b e):P c d f:=q5 h λx y z=>x▸y▸z▸k
@[elab_as_elim] theorem p6{α β γ δ:Type _}{P:α->β->γ->δ->Prop}{a c:α}{b d:β}{e f:γ}{i j:δ}(h:some (a,b,e,i)=some (c,d,f,j))(k:P a b e i):P c d f j:=q6 h λx y z w=>x▸y▸z▸w▸k
theorem o1(h:¬l<s+1)(k:l<b)(z:Nat.ble b c):s+1<c:=bw (bA h) (aH k (aV z))
theorem o2(h:x<=s)(k:s<b)(z:Nat.ble (b+1) c):x+1<c:=aH (Nat.succ_lt_succ (bw h k)) (aV z)
theorem o3(h:a<b)(k:b<c)(z:Nat.ble c (2^62)):(a:Int)<2^62:=bX.mpr (Nat.lt_trans h (aH k (aV z)))
theorem o4(h:j+(n+1)<=m+1):j<=m:=ax (aA j n) (Nat.le_of_succ_le_succ h)
theorem o5(h:j+(n+1)<=m):j+1+n<=m:=by rw[bF];exact h
theorem o6(h:j<n):n - j=n - (j+1)+1:=(Nat.sub_add_cancel (Nat.sub_pos_of_lt h)).symm.trans (az (·+1) (Nat.sub_sub n j 1))
theorem o7(h:j<n):n - (j+1)<n - j:=cL h (aX j)
theorem o8(h:l<n+1+s):l<n+(s+1):=by rw[bF] at h;exact h
theorem o9(h:l<st+d+k):l<st+(d+k):=by rw[<-bQ];exact h
theorem o10(h:st+d+k<=l):st+(d+k)<=l:=by rw[<-bQ];exact h
theorem o11(h:st+1+k<=l):st+(k+1)<=l:=by rw[<-bQ,bF];exact h
theorem o13(h:l<=st+1+k):l<=st+(k+1):=by rw[<-bQ,bF];exact h
theorem o14(h:l<n+(st+1+k)):l<n+(st+(k+1)):=by rw[<-bQ st,bF st];exact h
theorem o15{y z:Nat}(h:x<=y+z):x<=y+(z+1):=aG h
theorem o17{z:Nat}(h:x<=n+z):x+1<=n+(z+1):=aC h
theorem o18{r:Nat}:n<=n+1+r:=ax (au n) (aA _ _)
theorem o19{r:Nat}:n+r<=n+1+r:=Nat.add_le_add_right (au n) r
theorem o20:st+1<=st+(k+1):=bx (Nat.le_add_left 1 k) st
theorem o21:st+1<=st+(1+k):=bx (aA 1 k) st
theorem o22(h:a+n<=l):(a:Int)+(n:Int)<=(l:Int):=Int.ofNat_le.mpr h
theorem o23(h:¬a+n<=l):¬((a:Int)+(n:Int)<=(l:Int)):=λk=>h (Int.ofNat_le.mp k)
theorem o24(h:l<a+1):(l:Int)<(a:Int)+1:=bX.mpr h
theorem o25(h:¬l<a+1):¬((l:Int)<(a:Int)+1):=λk=>h (bX.mp k)
theorem o26(h:¬l<a+1):(a:Int)<(l:Int):=bX.mpr (bA h)
theorem o27(h:¬a<l):¬((a:Int)<(l:Int)):=λk=>h (bX.mp k)
theorem o28:(0:Int)<((n+1:Nat):Int):=bX.mpr (Nat.succ_pos n)
theorem o29:(0:Int)<((0+(n+1):Nat):Int):=bX.mpr (by rw[bS];exact Nat.succ_pos n)
theorem o30(h:n<b)(k:Nat.ble b c):0+n<c:=by rw[bS];exact aH h (aV k)
theorem o31{A:Nat}(h:A+(n+1+k)<l):A+1+(n+k)<l:=bw (aY ((bQ A 1 (n+k)).trans (az (A+·) ((Nat.add_comm 1 (n+k)).trans (bF n k 1))))) h
theorem o32(h:s<=l)(k:l<s+1):s=l:=Nat.le_antisymm h (Nat.le_of_lt_succ k)
theorem o34(h:a<=j)(k:j<l)(m:l<c)(z:Nat.ble c d):0+a<d:=by rw[bS];exact bw h (Nat.lt_trans k (aH m (aV z)))
theorem o35(h:a+1<=j)(k:j<l)(m:l<c)(z:Nat.ble c d):0+a<d:=o34 (cJ h) k m z
theorem o38(h:st<=l):¬l<0+st:=by rw[bS];exact cF.mpr h
theorem o39:l<l+(n+1)+st:=aH (Nat.lt_add_of_pos_right (Nat.succ_pos n)) (aA _ st)
noncomputable def w0:PySem.World:=⟨λI I=>0,{strHash:=λI=>0,shareClass:=λI=>0,mergeTok:=λx=>x,idOf:=λI=>0,idOfShared:=λI I=>0,followText:=λI=>false,idOfImm:=λI=>0}⟩
noncomputable def E1{α:Type}(S:α->Prop)(n:Nonempty α):α:=@Classical.epsilon α n λa=>¬S a
theorem A1{α:Type}{S:α->Prop}{n:Nonempty α}(h:S (E1 S n))(a:α):S a:=Classical.byContradiction λk=>@Classical.epsilon_spec α (λa=>¬S a) ⟨a,k⟩ h
end
end
local macro_rules (kind := Lean.Parser.Command.declaration)
  | d => mkE d
local macro_rules
  | `(()) => `(by decide)
set_option bootstrap.genMatcherCode false
set_option compiler.extract_closed false
theorem Nt1:type_of%@Nat.le_of_ble_eq_true:=@Nat.le_of_ble_eq_true
theorem Nt2:type_of%@Nat.lt_of_le_of_lt:=@Nat.lt_of_le_of_lt
theorem Nt3:type_of%@Nat.lt_of_lt_of_le:=@Nat.lt_of_lt_of_le
theorem N4:True:=trivial
local macro_rules
  | `(tactic| omega) => do `(tactic| with_reducible first | assumption | $(← mkT "a r 1Nt1 2Nt2;a r 1Nt1 2Nat.le_trans;a r 1Nt1 2Nt3;a r 1Nt1 2Nt3 1Nat.le_of_lt;_ 1Int.natCast_nonneg;a 1Int.ofNat_lt.mpr;a 1Int.ofNat_le.mpr;a 1Nat.le_of_lt;a 1Nat.le_of_lt_succ;a 1Nat.succ_le_of_lt;a 1Nat.le_succ_of_le;a 1Nat.le_of_succ_le;a 1Nat.lt_of_succ_le;a 1Nat.succ_le_succ;a 1Nat.succ_lt_succ;a 1Nat.le_of_succ_le_succ;a 1Nat.le_of_not_lt;a 1Nat.lt_of_not_le;a 1Nat.lt_of_not_le 1Nat.succ_le_of_lt;a 1Nat.lt_succ_of_le;a a 2Nt3 1Nat.le_of_lt;a a 2Nt2;a a 2Nt3;a a 2Nat.le_trans;_ _ _ 3Nat.add_right_comm;_ _ _ 3Nat.add_assoc;_ _ _ 3Nat.add_assoc 1Eq.symm;_ _ 2Nat.succ_add_eq_add_succ;_ _ 2Nat.add_comm;a 1Nat.le_add_right_of_le;a 1Nat.le_add_left_of_le;_ _ 2Nat.le_add_right;_ _ 2Nat.le_add_left;a a 2Nat.add_le_add;a _ 2Nat.add_le_add_right;a a r 1Nt1 2Nt3 2Nt2;a a r 1Nt1 2Nt2 2Nt2;a 1Nat.succ_le_succ r 1Nt1 2Nt2;a a 1Nat.succ_le_succ 2Nat.le_trans;a a 2Nt3 1Nat.le_of_lt_succ;_ 1Nat.sub_zero 1Eq.symm;a a a 2Nt3 2Nt2 1Nat.le_of_lt;_ 1Nat.zero_le;_ 1Nat.le_refl;a _ 1Nat.not_lt_zero 2absurd;a a 1o38 2absurd;_ _ 2Nat.min_le_left;_ _ 2Nat.min_le_right;_ _ 2Nat.min_le_left r 1Nt1 2Nat.le_trans;a a 2Nat.lt_trans r 1Nt1 2Nt3;a 1Nat.le_of_lt a r 1Nt1 2Nt2 2Nt2;a a 1Nat.not_lt.mpr 2absurd;a a r 3o1;a a r 3o2;a a r 3o3;a 1o4;a 1o5;a 1o6;a 1o7;a 1o8;a 1o9;a 1o10;a 1o11;a 1o12;a 1o13;a 1o14;a 1o15;a 1o16;a 1o17;0o18;0o19;0o20;0o21;a 1o22;a 1o23;a 1o24;a 1o25;a 1o26;a 1o27;0o28;0o29;a r 2o30;a 1o31;a a 2o32;a a r 3o33;a a a r 4o34;a a a r 4o35;a a a r 4o36;a a a r 4o37;0o39;a a 2Nt3 1Int.ofNat_lt.mpr;a 1Int.ofNat_le.mpr 1Int.lt_add_one_of_le;a a 2o40;a 1o41;a a 2o42;a 1o43;a 1o44;a a 2o45;a 1o46;a a 2o48;a a a 3o49;a a 2o51;a 1Nat.not_lt.mpr;_ _ 2Nat.sub_le;_ _ 2Nat.add_sub_cancel_left"):tactic | lia)
local macro_rules
  | `(tactic| walk_at $s:str) => mkI s.getString
local macro_rules
  | `(tactic| obtain ⟨$[$ps:rcasesPatLo],*⟩ := $e:term) => do
    let qs ← ps.toList.mapM fun (p : Lean.TSyntax `Lean.Parser.Tactic.rcasesPatLo) => match p with
      | `(Lean.Parser.Tactic.rcasesPatLo| $q:rcasesPat) => pure q
      | _ => Lean.Macro.throwUnsupported
    if qs.length < 2 then Lean.Macro.throwUnsupported
    mkO e qs
local macro_rules
  | `(tactic| cases $h:ident) => mkC false h
local macro_rules
  | `(tactic| injection $h:ident) => mkC true h
local macro_rules
  | `(tactic| cases $h:ident with $as:inductionAlt*) => `(tactic| first | (induction $h:ident with $as:inductionAlt*) | (cases ($h) with $as:inductionAlt*))
local macro_rules
  | `(tactic| cases $t:elimTarget with $as:inductionAlt*) => mkP t.raw as
local macro_rules
  | `(command| nonrec theorem $n:declId $s:declSig $v:declVal) => mkN ⟨n.raw[0]⟩ s.raw[0].getArgs.toList ⟨s.raw[1][1]⟩ ⟨v.raw[1]⟩
set_option tactic.hygienic false
abbrev Nm:=Nat
set_option genInjectivity true in
inductive V where
 |none
 |bool (b:Bool)
 |int (y:Bool) (i:Int)
 |str (y:Bool) (s:Str)
 |tup (vs:List V)
 |obj (i:Nat)
 |val (x:Value)
 |bi (k:Nat)
inductive O where
 |frame (b:List (Nm×V))
 |list (y:Bool) (xs:List V)
 |stk (top:List V) (u':List Value)
 |inst (C:Addr) (fs:List (Nm×V))
 |dict (ks:List Str)
 |any
def mj(k:Nat):Value:=match k with
 |0=>.builtin "len"
 |1=>.builtin "isinstance"
 |2=>.type "str"
 |3=>.type "tuple"
 |4=>.type "list"
 |5=>.type "int"
 |6=>.type "range"
 |7=>.builtin "min"
 |_=>.none
def wV:Value->Bool
 | .builtin _=>false
 |_=>true
mutual
noncomputable def dH(ρ:List Addr)(h:Heap):V->Value->Prop
 | .none,x=>x= .none
 | .bool b,x=>x= .bool b
 | .int _ i,x=>∃t,x= .int i t
 | .str _ s,x=>∃t,x= .str s t
 | .tup vs,x=>∃a z',x= .ref a/\IsTup h a (List.toArray z')/\dy ρ h vs z'
 | .obj i,x=>∃a,ρ[i]?=some a/\x= .ref a
 | .val y,x=>x=y/\wV y=true
 | .bi k,x=>x=mj k
noncomputable def dy(ρ:List Addr)(h:Heap):List V->List Value->Prop
 |[],l=>l=[]
 |v::vs,l=>∃x xs,l=x::xs/\dH ρ h v x/\dy ρ h vs xs
end
structure PW where
 prog:Program
 w:World
section
variable(nm:Nat->Str)
abbrev fk(z':List Value)(n:Nat):Obj:={cls:=.type "list",data:=.seq z'.toArray n}
def gP(n:Nat):List (Nat×V)->Option V
 |[]=>none
 |(k,v)::r=>match Nat.beq k n with
  |true=>some v
  |false=>gP n r
def jD(n:Nat)(v:V):List (Nat×V)->List (Nat×V)
 |[]=>[(n,v)]
 |(k,x)::r=>match Nat.beq k n with
  |true=>(k,v)::r
  |false=>(k,x)::jD n v r
def hU(ρ:List Addr)(h:Heap):List (Nm×V)->List DictEntry->Prop
 |[],es=>es=[]
 |(n,v)::fs,es=>∃hs t x r,es=⟨hs,.str (nm n) t,x⟩::r/\dH ρ h v x/\hU ρ h fs r
def j4(P:PW)(ρ:List Addr)(h:Heap)(a:Addr):O->Prop
 | .frame b=>∃m,h.Ns a m/\∀n v,gP n b=some v->∃x,m (nm n)=some x/\dH ρ h v x
 | .list _ xs=>∃z' n,h.get? a=some (fk z' n)/\dy ρ h xs z'
 | .stk top u'=>∃z' n,h.get? a=some (fk (u'++z') n)/\dy ρ h top.reverse z'
 | .inst C fs=>∃es n,0<a/\h.get? a=some (instObj C (a - 1))/\h.get? (a - 1)=some (dictOf es n)/\hU nm ρ h fs es
 | .dict ks=>∃kvs,h.DictOf (strKind P.prog P.w) a kvs/\kvs.map (·.1)=ks
 | .any=>∃o,h.get? a=some o/\o.cls≠ .type "tuple"
def foot(a:Addr):O->List Addr
 | .inst _ _=>[a,a - 1]
 |_=>[a]
end
def dA:List Addr->List O->List Addr
 |a::ρ,o::σ=>foot a o++dA ρ σ
 |_,_=>[]
section
set_option backward.match.sparseCases false
def S(l:List Nat):Str:=⟨l.toArray⟩
inductive ME where
 |oth
 |cst (c:Const)
 |loc (n:Nm)
 |glb (n:Nm)
 |tup (es:List ME)
 |lst (es:List ME)
 |dct
 |bin (op:Operator) (l r:ME)
 |not (x:ME)
 |bop (M':Bool) (es:List ME)
 |cmp (op:CmpOp) (l r:ME)
 |ite (t a b:ME)
 |attr (o:ME) (n:Nm)
 |item (o i:ME)
 |slice (o:ME) (lo hi:Option ME)
 |call (f:ME) (as:List ME)
 |meth (o:ME) (n:Nm) (as:List ME)
 |lmeth (k:Nat) (o:ME) (as:List ME)
inductive MS where
 |oth
 |expr (e:ME)
 |asg (n:Nm) (e:ME)
 |asgA (o:ME) (n:Nm) (e:ME)
 |asgI (o i:ME) (e:ME)
 |asgT (ns:List Nm) (e:ME)
 |asgD (ns:List Nm) (es:List ME)
 |aug (n:Nm) (op:Operator) (e:ME)
 |augA (o:ME) (n:Nm) (op:Operator) (e:ME)
 |ret (e:Option ME)
 |ite (t:ME) (a b:List MS)
 |while (t:ME) (b:List MS)
 |for (n:Nm) (it:ME) (b:List MS)
 |brk | cont | pass
inductive Fl where
 |next | brk | cont
 |ret (v:V)
inductive Ch where
 |b (x:Bool)
 |v (x:V)
 |ix (i:Nat)
 |k (x:V) (os:List O)
 |l (f:Fl) (os:List O)
 |r (os:List O)
abbrev jA:=Nat->List V->List O->V->List O->Prop
abbrev jz:=MS->Nat->List O->Fl->List O->Prop
abbrev uS:=Nat->List V->List O->List O->Prop
abbrev uZ:=MS->Nat->List O->List O->Prop
structure St where
 os:List O
 ch:List Ch
 cs:List Prop
structure tR where
 ads:List Addr
 fn:Nat->Option (List Nm×List MS)
 cls:Nat->Option Nat
 meth:Nat->Nm->Option Nat
 fld:Nat->Nm->Bool
 glob:Nm->Option V
 orc:Nat->Bool
 spec:Nat->List V->List O->V->List O->Prop
 specL:MS->Nat->List O->Fl->List O->Prop
 room:Nat
structure Ev where
 e:ME->Nat->St->Option (V×St)
 t:ME->Nat->St->Option (Bool×St)
 ss:List MS->Nat->St->Option (Fl×St)
 c:Nat->List V->St->Option (V×St)
def nth{α:Type}:List α->Nat->Option α
 |[],_=>none
 |a::l,n=>match n with
  |0=>some a
  |n+1=>nth l n
def setN{α:Type}:List α->Nat->α->List α
 |[],_,_=>[]
 |a::l,n,x=>match n with
  |0=>x::l
  |n+1=>a::setN l n x
def choose(st:St)(p:Bool->Prop):Option (Bool×St):=match st.ch with
 | .b c::r=>some (c,⟨st.os,r,p c::st.cs⟩)
 |_=>none
def qz(st:St)(p:Prop):St:=⟨st.os,st.ch,p::st.cs⟩
def ig(st:St)(y:Bool)(n:Nat):St:=match y with
 |true=>⟨st.os,st.ch,(n<2^20)::st.cs⟩
 |false=>match Nat.blt n 4096 with
  |true=>st
  |false=>⟨st.os,st.ch,False::st.cs⟩
def ob{α β:Type}(o:Option (α×St))(f:α->St->Option β):Option β:=match o with
 |some (a,s)=>f a s
 |none=>none
def on{α β:Type}(o:Option α)(f:α->Option β):Option β:=match o with
 |some a=>f a
 |none=>none
def oi{β:Type}(b:Bool)(x y:Option β):Option β:=match b with
 |true=>x
 |false=>y
def od{α β:Type}(o:Option α)(f:α->β)(d:β):β:=match o with
 |some a=>f a
 |none=>d
def JU{β:Type}(o:Option O)(f:Bool->List V->Option β):Option β:=on o λo=>match o with
 | .list y xs=>f y xs
 |_=>none
def J1{β:Type}(o:Option O)(f:Bool->List V->Option β)(g:List V->List Value->Option β):Option β:=on o λo=>match o with
 | .list y xs=>f y xs
 | .stk top u'=>g top u'
 |_=>none
def H0{β:Type}(v:List V)(f:V->List V->Option β):Option β:=match v with
 |[]=>none
 |x::xs=>f x xs
def J9{β:Type}(st:St)(f:V->List Ch->Option β):Option β:=match st.ch with
 |[]=>none
 |h::r=>match h with
  | .v x=>f x r
  |_=>none
def Lp{β:Type}(o:Option O)(f:Addr->List (Nm×V)->Option β):Option β:=on o λo=>match o with
 | .inst C fs=>f C fs
 |_=>none
def JI{β:Type}(v:V)(f:Bool->Option β):Option β:=match v with
 | .bool b=>f b
 |_=>none
def LV{β:Type}(v:V)(f:List V->Option β):Option β:=match v with
 | .tup vs=>f vs
 |_=>none
def LG{β:Type}(l:List V)(f:V->Option β):Option β:=match l with
 |[]=>none
 |x::l=>match l with
  |[]=>f x
  |_::_=>none
def GP(a b:Bool):Bool:=match a with
 |true=>b
 |false=> !b
def LJ{β:Type}(st:St)(f:Fl->List O->List Ch->Option β):Option β:=match st.ch with
 |[]=>none
 |h::r=>match h with
  | .l x os=>f x os r
  |_=>none
def M0{β:Type}(st:St)(f:V->List O->List Ch->Option β):Option β:=match st.ch with
 |[]=>none
 |h::r=>match h with
  | .k x os=>f x os r
  |_=>none
def oP{α:Type}(o:Option (α×St))(K:α->St->Prop):Prop:=match o with
 |some (a,s)=>K a s
 |none=>True
section
variable{β:Type} {K:β->St->Prop}
theorem LK{α:Type}{o:Option (α×St)}{f:α->St->Option (β×St)}{P:α->St->Prop}(h:oP o P)(k:∀a s,P a s->oP (f a s) K):oP (ob o f) K:=match o,h with
 |some (a,s),h=>k a s h
 |none,_=>trivial
theorem pU{α:Type}{o:Option α}{f:α->Option (β×St)}(k:∀a,o=some a->oP (f a) K):oP (on o f) K:=match o,k with
 |some a,k=>k a rfl
 |none,_=>trivial
theorem yM{b:Bool}{x y:Option (β×St)}(h:b->oP x K)(k:b=false->oP y K):oP (oi b x y) K:=match b,h,k with
 |true,h,_=>h rfl
 |false,_,k=>k rfl
theorem oP.out{o:Option (β×St)}(h:oP o K){a:β}{s:St}(e:o=some (a,s)):K a s:=by subst e;exact h
theorem oP.into{o:Option (β×St)}(k:∀a s,o=some (a,s)->K a s):oP o K:=match o,k with
 |some (a,s),k=>k a s rfl
 |none,_=>trivial
theorem oP.mono{o:Option (β×St)}{P:β->St->Prop}(h:oP o P)(k:∀a s,P a s->K a s):oP o K:=match o,h with
 |some (a,s),h=>k a s h
 |none,_=>trivial
def lO(ads:List Addr)(v:V)(st:St):Option (Nat×St):=match v with
 | .obj i=>some (i,st)
 | .val x=>match st.ch with
  | .ix i::r=>some (i,⟨st.os,r,((nth ads i).map Value.ref=some x)::st.cs⟩)
  |_=>none
 |_=>none
def Bj(a b:Str):Bool:=a.cps.toList==b.cps.toList
def tE(op:CmpOp)(i j:Int):Option Bool:=match op with
 | .Eq=>some (Z.eqB i j)
 | .NotEq=>some (! Z.eqB i j)
 | .Lt=>some (Z.ltB i j)
 | .LtE=>some (Z.leB i j)
 | .Gt=>some (Z.ltB j i)
 | .GtE=>some (Z.leB j i)
 |_=>none
def lu(op:CmpOp)(i j:Int)(c:Bool):Prop:=match op with
 | .Eq=>decide (i=j)=c
 | .NotEq=>decide (i≠j)=c
 | .Lt=>decide (i<j)=c
 | .LtE=>decide (i<=j)=c
 | .Gt=>decide (j<i)=c
 | .GtE=>decide (j<=i)=c
 |_=>False
def I4(f:Bool->Bool)(p:Value->Bool->Prop)(v:V)(st:St):Option (Bool×St):=match v with
 | .none=>some (f true,st)
 | .val x=>choose st (p x)
 | .bi _=>none
 |_=>some (f false,st)
def nQ(y:Bool)(s:Str):List V->Option (Bool×List Str)
 |[]=>some (false,[])
 | .str z t::r=>match nQ y s r with
  |some (b,l)=>match y||z with
   |true=>some (true,t::l)
   |false=>some (b,t::l)
  |none=>none
 |_=>none
def gG(s:Str):List Str->Bool
 |[]=>false
 |t::r=>match Bj s t with
  |true=>true
  |false=>gG s r
def HL(ads:List Addr)(b:V)(st:St):Option (Bool×St):=ob (lO ads b st) λi st=>on (nth st.os i) λo=>match o with
 | .list _ l=>match l with
  |[]=>some (false,st)
  |_=>none
 |_=>none
def zN(ads:List Addr)(op:CmpOp)(a b:V)(st:St):Option (Bool×St):=match op with
 | .Is=>match b with
  | .none=>I4 (λr=>r) (λx c=>decide (x=Value.none)=c) a st
  |_=>none
 | .IsNot=>match b with
  | .none=>I4 (λr=> !r) (λx c=>decide (x≠Value.none)=c) a st
  |_=>none
 | .In=>match a with
  | .str y s=>match b with
   | .tup vs=>on (nQ y s vs) λp=>oi p.1 (choose st λc=>gG s p.2=c) (some (gG s p.2,st))
   | .str _ t=>choose st λc=>Txt.contains t s=c
   |b=>HL ads b st
  |_=>none
 | .NotIn=>match a with
  | .str y s=>match b with
   | .tup vs=>on (nQ y s vs) λp=>oi p.1 (choose st λc=>(!gG s p.2)=c) (some (!gG s p.2,st))
   | .str _ t=>choose st λc=>(!Txt.contains t s)=c
   |_=>none
  |_=>none
 |op=>match a with
  | .int y i=>match b with
   | .int z j=>oi (y||z) (choose st λc=>lu op i j c) (on (tE op i j) λc=>some (c,st))
   |_=>none
  | .str y s=>match b with
   | .str z t=>match op with
    | .Eq=>oi (y||z) (choose st λc=>decide (s=t)=c) (some (Bj s t,st))
    | .NotEq=>oi (y||z) (choose st λc=>decide (s≠t)=c) (some (! Bj s t,st))
    |_=>none
   |_=>none
  | .tup _=>match b with
   | .str _ _=>match op with
    | .Eq=>some (false,st)
    |_=>none
   |_=>none
  | .none=>match b with
   | .str _ _=>match op with
    | .Eq=>some (false,st)
    |_=>none
   |_=>none
  |_=>none
def mD(st:St)(i:Nat)(o:O):St:=⟨setN st.os i o,st.ch,st.cs⟩
def BM(st:St)(o:O):V×St:=(.obj st.os.length,⟨st.os++[o],st.ch,st.cs⟩)
def E9(op:Operator)(a b:V)(st:St):Option (V×St):=match a with
 | .int y i=>match b with
  | .int z j=>match op with
   | .Add=>some (.int (y||z) (i+j),st)
   | .Sub=>some (.int (y||z) (i - j),st)
   | .Mult=>some (.int (y||z) (i*j),qz st (IntMulOk i j))
   | .Mod=>some (.int (y||z) (i.fmod j),qz st (j≠0))
   | .FloorDiv=>some (.int (y||z) (i.fdiv j),qz st (j≠0/\Builtin.divisionGoesByPylong i j=false))
   |_=>none
  |_=>none
 | .obj i=>match b with
  | .obj j=>match op with
   | .Add=>JU (nth st.os i) λI xs=>JU (nth st.os j) λI ys=>some ((BM st (.list true (xs++ys))).1,qz (BM st (.list true (xs++ys))).2 (xs.length+ys.length<=sizeLine))
   |_=>none
  |_=>none
 | .str y s=>match b with
  | .str z t=>match op with
   | .Add=>some (.str (y||z) (s++t),qz st (s.length+t.length<=sizeLine))
   |_=>none
  |_=>none
 | .tup vs=>match b with
  | .tup ws=>match op with
   | .Add=>some (.tup (vs++ws),qz st (vs.length+ws.length<=sizeLine))
   |_=>none
  |_=>none
 |_=>none
def Al(op:Operator)(a b:V):Option V:=match op with
 | .Add=>match a with
  | .int y i=>match b with
   | .int z j=>some (.int (y||z) (i+j))
   |_=>none
  |_=>none
 |_=>none
def E6(ads:List Addr)(v:V)(st:St):Option (V×St):=ob (lO ads v st) λi st=>J1 (nth st.os i) (λy xs=>some (.int y xs.length,ig st y xs.length))
 λtop u'=>some (.int true ((u'.length+top.length:Nat):Int),qz st (u'.length+top.length<2^62))
def H3(ads:List Addr)(v:V)(st:St):Option (V×St):=match v with
 | .str y s=>some (.int y s.length,ig st y s.length)
 | .tup vs=>some (.int false vs.length,ig st false vs.length)
 |v=>E6 ads v st
def AG(y:Bool)(k:Int):Option Nat:=match y with
 |true=>none
 |false=>match k with
  | .ofNat n=>some n
  |_=>none
def Ai(ads:List Addr)(v:V)(y:Bool)(k:Int)(st:St):Option (V×St):=ob (lO ads v st) λj st=>J1 (nth st.os j)
 (λI xs=>od (AG y k) (λn=>on (nth xs n) λv=>some (v,ig st false n)) (J9 st λx r=>some (x,⟨st.os,r,(0<=k/\k<2^62/\nth xs k.toNat=some x)::st.cs⟩)))
 λtop u'=>H0 top λv tl=>some (v,qz st (k=(u'.length+tl.length:Nat)/\k<2^62))
def yZ(ads:List Addr)(o i:V)(st:St):Option (V×St):=match i with
 | .int y k=>match o with
  | .tup vs=>on (AG y k) λn=>on (nth vs n) λv=>some (v,ig st false n)
  | .str _ s=>some (.str true ⟨#[s.cps.getD k.toNat 0]⟩,qz st (0<=k/\k<(s.length:Int)/\k<2^62))
  |v=>Ai ads v y k st
 |_=>none
def pS(v:Option V):Option (Option Int×Bool):=match v with
 |none=>some (none,false)
 |some (.int y i)=>some (some i,y)
 |_=>none
def AX(o:V)(lo hi:Option V)(st:St):Option (V×St):=match o with
 | .str y s=>on (pS lo) λl=>on (pS hi) λu=>some (.str (y||u.2) (Txt.slice s l.1 u.1),qz st (s.length<=sizeLine))
 |_=>none
def n7:V->List V->V×List V
 |x,[]=>(x,[])
 |x,y::r=>match n7 y r with
  |(l,i)=>(l,x::i)
def AP(ads:List Addr)(k:Nat)(i:Nat)(as:List V)(st:St):Option (V×St):=match k with
  |0=>H0 as λv as=>match as with
   |[]=>J1 (nth st.os i) (λy xs=>some (.none,ig (mD st i (.list y (xs++[v]))) y xs.length)) λtop u'=>some (.none,ig (mD st i (.stk (v::top) u')) true (u'.length+top.length))
   |_::_=>none
  |1=>match as with
   |[]=>J1 (nth st.os i) (λy xs=>H0 xs λx xs=>some ((n7 x xs).1,ig (mD st i (.list y (n7 x xs).2)) y (x::xs).length))
     λtop u'=>H0 top λv top=>some (v,ig (mD st i (.stk top u')) true (u'.length+(v::top).length))
   |a::as=>match as with
    |[]=>match a with
     | .int z k=>match z with
      |false=>match k with
       | .ofNat n=>match n with
        |0=>JU (nth st.os i) λy xs=>H0 xs λx xs=>some (x,ig (mD st i (.list y xs)) y (x::xs).length)
        |_+1=>none
       |_=>none
      |true=>none
     |_=>none
    |_::_=>none
  |2=>H0 as λl as=>match as with
   |[]=>ob (lO ads l st) λj st=>JU (nth st.os j) λI ys=>J1 (nth st.os i)
     (λy xs=>oi (Nat.beq i j) none (some (.none,ig (mD st i (.list y (xs++ys))) y (xs.length+ys.length))))
     λtop u'=>oi (Nat.beq i j) none (some (.none,ig (mD st i (.stk (ys.reverse++top) u')) true (u'.length+top.length+ys.length)))
   |_::_=>none
  |3=>match as with
   |[]=>JU (nth st.os i) λy xs=>some (.none,ig (mD st i (.list y xs.reverse)) y xs.length)
   |_::_=>none
  |_=>none
def HE:O->Bool
 | .list _ _=>true
 | .stk _ _=>true
 |_=>false
def wK(x t:V)(st:St):Option (V×St):=match t with
 | .bi 2=>match x with
  | .str _ _=>some (.bool true,st)
  | .int _ _=>some (.bool false,st)
  | .tup _=>some (.bool false,st)
  |_=>none
 | .bi 3=>match x with
  | .str _ _=>some (.bool false,st)
  | .int _ _=>some (.bool false,st)
  | .tup _=>some (.bool true,st)
  |_=>none
 |_=>none
def pZ:List Nm->List V->Option (List (Nm×V))
 |[],[]=>some []
 |n::ns,v::vs=>match pZ ns vs with
  |some r=>some ((n,v)::r)
  |none=>none
 |_,_=>none
def GG(e:ME->Nat->St->Option (V×St))(fi:Nat):List ME->St->Option (List V×St)
 |[],st=>some ([],st)
 |m::ms,st=>ob (e m fi st) λv st=>ob (GG e fi ms st) λvs st=>some (v::vs,st)
def LY(e:ME->Nat->St->Option (V×St))(fi:Nat)(m:Option ME)(st:St):Option (Option V×St):=match m with
 |none=>some (none,st)
 |some m=>ob (e m fi st) λv st=>some (some v,st)
def L6(e:ME->Nat->St->Option (V×St))(fi:Nat)(M':Bool):List ME->St->Option (V×St)
 |[],_=>none
 |m::ms,st=>match ms with
  |[]=>e m fi st
  |_::_=>ob (e m fi st) λv st=>JI v λb=>oi (GP M' b) (L6 e fi M' ms st) (some (.bool b,st))
def Mb(t:ME->Nat->St->Option (Bool×St))(fi:Nat)(M':Bool):List ME->St->Option (Bool×St)
 |[],st=>some (M',st)
 |m::ms,st=>ob (t m fi st) λb st=>oi (GP M' b) (Mb t fi M' ms st) (some (b,st))
def pW(st:St)(fi:Nat)(n:Nm):Option V:=match nth st.os fi with
 |some (.frame b)=>gP n b
 |_=>none
def gW(st:St)(fi:Nat)(n:Nm)(v:V):Option St:=match nth st.os fi with
 |some (.frame b)=>some (mD st fi (.frame (jD n v b)))
 |_=>none
def kl(fi:Nat):List Nm->List V->St->Option St
 |[],vs,st=>match vs with
  |[]=>some st
  |_::_=>none
 |n::ns,vs,st=>match vs with
  |[]=>none
  |v::vs=>on (gW st fi n v) λst=>kl fi ns vs st
def vL(P:tR)(o:V)(n:Nm)(st:St):Option (V×St):=ob (lO P.ads o st) λi st=>Lp (nth st.os i) λC fs=>oi (P.fld C n) (on (gP n fs) λv=>some (v,st)) none
def yA(P:tR)(o:V)(n:Nm)(v:V)(st:St):Option (Unit×St):=ob (lO P.ads o st) λi st=>Lp (nth st.os i) λC fs=>oi (P.fld C n) (oi (Nat.blt fs.length 900) (some (Unit.unit,mD st i (.inst C (jD n v fs)))) none) none
def ED(P:tR)(k:Nat)(as:List V)(st:St):Option (V×St):=match k with
 |0=>LG as λx=>H3 P.ads x st
 |1=>H0 as λx as=>LG as λt=>wK x t st
 |4=>LG as λv=>LV v λvs=>some ((BM st (.list true vs)).1,ig (BM st (.list true vs)).2 true vs.length)
 |_=>none
def Lr(P:tR)(ih:Ev)(a:Addr)(as:List V)(st:St):Option (V×St):=od (P.cls a)
 (λinit=>ob (ih.c init (.obj st.os.length::as) ⟨st.os++[.inst a []],st.ch,st.cs⟩) λv C'=>match v with
  | .none=>some (.obj st.os.length,C')
  |_=>none)
 (ih.c a as st)
def HY(P:tR)(ih:Ev)(f:V)(as:List V)(st:St):Option (V×St):=match f with
 | .bi k=>ED P k as st
 | .val x=>match x with
  | .ref a=>Lr P ih a as st
  |_=>none
 |_=>none
def DB(P:tR)(e:ME->Nat->St->Option (V×St))(fi:Nat)(o:ME)(n:Nm)(as:List ME)(st:St):Option ((Nat×List V)×St):=
 ob (e o fi st) λv st=>ob (lO P.ads v st) λi st=>Lp (nth st.os i) λC fs=>od (gP n fs) (λI=>none) (on (P.meth C n) λf=>ob (GG e fi as st) λvs st=>some ((f,.obj i::vs),st))
def Ig(P:tR)(ih:Ev)(m:ME)(fi:Nat)(st:St):Option (V×St):=match m with
 | .oth=>none
 | .cst c=>match c with
  | .none=>some (.none,st)
  | .bool b=>some (.bool b,st)
  | .int i=>some (.int false i,st)
  | .str s=>some (.str false s,st)
  |_=>none
 | .loc n=>on (pW st fi n) λv=>some (v,st)
 | .glb n=>on (P.glob n) λv=>some (v,st)
 | .tup es=>ob (GG ih.e fi es st) λvs st=>oi (Nat.blt vs.length 1000) (some (.tup vs,st)) none
 | .lst es=>ob (GG ih.e fi es st) λvs st=>oi (Nat.blt vs.length 1000) (some (BM st (.list true vs))) none
 | .dct=>some (BM st (.dict []))
 | .bin op l r=>ob (ih.e l fi st) λa st=>ob (ih.e r fi st) λb st=>E9 op a b st
 | .not x=>ob (ih.e x fi st) λv st=>JI v λb=>some (.bool (!b),st)
 | .bop M' es=>L6 ih.e fi M' es st
 | .cmp op l r=>ob (ih.e l fi st) λa st=>ob (ih.e r fi st) λb st=>ob (zN P.ads op a b st) λc st=>some (.bool c,st)
 | .ite t a b=>ob (ih.t t fi st) λc st=>oi c (ih.e a fi st) (ih.e b fi st)
 | .attr o n=>ob (ih.e o fi st) λv st=>vL P v n st
 | .item o i=>ob (ih.e o fi st) λa st=>ob (ih.e i fi st) λb st=>yZ P.ads a b st
 | .slice o lo hi=>ob (ih.e o fi st) λa st=>ob (LY ih.e fi lo st) λl st=>ob (LY ih.e fi hi st) λu st=>AX a l u st
 | .call f as=>ob (ih.e f fi st) λg st=>ob (GG ih.e fi as st) λvs st=>HY P ih g vs st
 | .meth o n as=>ob (DB P ih.e fi o n as st) λq st=>ih.c q.1 q.2 st
 | .lmeth k o as=>ob (ih.e o fi st) λv st=>ob (lO P.ads v st) λi st=>on (nth st.os i) λq=>oi (HE q) (ob (GG ih.e fi as st) λvs st=>AP P.ads k i vs st) none
def HP(P:tR)(ih:Ev)(m:ME)(fi:Nat)(st:St):Option (Bool×St):=match m with
 | .not x=>ob (ih.t x fi st) λb st=>some (!b,st)
 | .bop M' es=>Mb ih.t fi M' es st
 | .ite t a b=>ob (ih.t t fi st) λc st=>oi c (ih.t a fi st) (ih.t b fi st)
 | .cmp op l r=>ob (ih.e l fi st) λa st=>ob (ih.e r fi st) λb st=>zN P.ads op a b st
 | .loc n=>on (pW st fi n) λv=>JI v λb=>some (b,st)
 | .call f as=>ob (ih.e (.call f as) fi st) λv st=>JI v λb=>some (b,st)
 | .meth o n as=>ob (ih.e (.meth o n as) fi st) λv st=>JI v λb=>some (b,st)
 |_=>none
def ET:V->Bool
 | .none=>true
 | .int _ _=>true
 | .bool _=>true
 |_=>false
def Kn(j:Nat)(q:O)(k v:V)(st:St):Option (Fl×St):=match q with
 | .list y xs=>match k with
  | .int z k=>on (AG z k) λn=>on (nth xs n) λI=>some (.next,ig (mD st j (.list y (setN xs n v))) false n)
  |_=>none
 | .dict ks=>match k with
  | .str _ s=>match ks with
   |[]=>some (.next,mD st j (.dict [s]))
   |t::r=>match r with
    |[]=>some (.next,qz (mD st j (.dict [t])) (s=t))
    |_::_=>none
  |_=>none
 |_=>none
def ju(P:tR)(ih:Ev)(x:MS)(fi:Nat)(st:St):Option (Fl×St):=match x with
 | .expr e=>ob (ih.e e fi st) λv st=>oi (ET v) (some (.next,st)) none
 | .asg n e=>ob (ih.e e fi st) λv st=>on (gW st fi n v) λst=>some (.next,st)
 | .asgA o n e=>ob (ih.e e fi st) λv st=>ob (ih.e o fi st) λa st=>ob (yA P a n v st) λI st=>some (.next,st)
 | .asgI o i e=>ob (ih.e e fi st) λv st=>ob (ih.e o fi st) λa st=>ob (ih.e i fi st) λk st=>ob (lO P.ads a st) λj st=>on (nth st.os j) λq=>Kn j q k v st
 | .asgT ns e=>ob (ih.e e fi st) λv st=>LV v λvs=>on (kl fi ns vs st) λst=>some (.next,st)
 | .asgD ns es=>ob (GG ih.e fi es st) λvs st=>on (kl fi ns.reverse vs.reverse st) λst=>some (.next,st)
 | .aug n op e=>on (pW st fi n) λa=>ob (ih.e e fi st) λb st=>on (Al op a b) λv=>on (gW st fi n v) λst=>some (.next,st)
 | .augA o n op e=>ob (ih.e o fi st) λq st=>ob (vL P q n st) λa st=>ob (ih.e e fi st) λb st=>on (Al op a b) λv=>ob (yA P q n v st) λI st=>some (.next,st)
 | .ret e=>match e with
  |none=>some (.ret .none,st)
  |some e=>ob (ih.e e fi st) λv st=>some (.ret v,st)
 | .ite t a b=>ob (ih.t t fi st) λc st=>oi c (ih.ss a fi st) (ih.ss b fi st)
 | .brk=>some (.brk,st)
 | .cont=>some (.cont,st)
 | .pass=>some (.next,st)
 | .while t b=>LJ st λf os r=>some (f,⟨os,r,P.specL (.while t b) fi st.os f os::st.cs⟩)
 | .for n it b=>LJ st λf os r=>some (f,⟨os,r,P.specL (.for n it b) fi st.os f os::st.cs⟩)
 | .oth=>none
def DN(P:tR)(ih:Ev)(l:List MS)(fi:Nat)(st:St):Option (Fl×St):=match l with
 |[]=>some (.next,st)
 |x::r=>ob (ju P ih x fi st) λf st=>match f with
  | .next=>ih.ss r fi st
  |f=>some (f,st)
def HI(P:tR)(ih:Ev)(f:Nat)(as:List V)(st:St):Option (V×St):=oi (P.orc f)
 (M0 st λv os r=>some (v,⟨os,r,P.spec f as st.os v os::st.cs⟩))
 (on (P.fn f) λq=>on (pZ q.1 as) λb=>ob (ih.ss q.2 st.os.length ⟨st.os++[.frame b],st.ch,st.cs⟩) λf st=>match f with
  | .ret v=>some (v,st)
  | .next=>some (.none,st)
  |_=>none)
def ev(P:tR):Nat->Ev
 |0=>⟨λI I I=>none,λI I I=>none,λI I I=>none,λI I I=>none⟩
 |n+1=>⟨Ig P (ev P n),HP P (ev P n),DN P (ev P n),HI P (ev P n)⟩
def jy{α:Type}(n:Nat):List (Nat×α)->Option α
 |[]=>none
 |(k,v)::r=>match Nat.beq k n with
  |true=>some v
  |false=>jy n r
end
end
section
set_option backward.match.sparseCases false
theorem fO{α:Type}:∀{l:List α} {n:Nat} {x:α},nth l n=some x->n<l.length
 |[],_,_,h=>by injection h
 |a::l,0,_,_=>Nat.zero_lt_succ _
 |a::l,n+1,x,h=>Nat.succ_lt_succ (fO (l:=l) h)
theorem jF{α:Type}:∀{l:List α} {n:Nat} {x:α} (r:List α),nth l n=some x->nth (l++r) n=some x
 |[],_,_,_,h=>by injection h
 |a::l,0,_,_,h=>h
 |a::l,n+1,x,r,h=>jF (l:=l) r h
theorem gr{α:Type}:∀(l:List α) (x:α),nth (l++[x]) l.length=some x
 |[],_=>rfl
 |_::l,x=>gr l x
theorem j8{α:Type}:∀{l:List α} {n:Nat} {x y:α},nth (l++[y]) n=some x->nth l n=some x\/(n=l.length/\x=y)
 |[],0,x,y,h=>.inr ⟨rfl,(ac h).symm⟩
 |[],n+1,x,y,h=>by injection h
 |a::l,0,x,y,h=>.inl h
 |a::l,n+1,x,y,h=>(j8 (l:=l) h).imp id λq=>⟨by rw[q.1];rfl,q.2⟩
theorem dP{α:Type}:∀(l:List α) (n:Nat),nth l n=l[n]?
 |[],_=>rfl
 |a::l,0=>rfl
 |a::l,n+1=>by rw[List.getElem?_cons_succ,<-dP l n];rfl
theorem oY{α:Type}:∀(l:List α) (n:Nat) (x:α),(setN l n x).length=l.length
 |[],_,_=>rfl
 |_::_,0,_=>rfl
 |_::l,n+1,x=>az (·+1) (oY l n x)
theorem pH{α:Type}:∀{l:List α} {n j:Nat} {x y:α},nth (setN l n x) j=some y->(j=n/\y=x)\/(j≠n/\nth l j=some y)
 |[],_,_,_,_,h=>by injection h
 |a::l,0,0,x,y,h=>.inl ⟨rfl,(ac h).symm⟩
 |a::l,0,j+1,x,y,h=>.inr ⟨Nat.succ_ne_zero j,h⟩
 |a::l,n+1,0,x,y,h=>.inr ⟨(Nat.succ_ne_zero n).symm,h⟩
 |a::l,n+1,j+1,x,y,h=>(pH (l:=l) h).imp (λq=>⟨by rw[q.1],q.2⟩) λq=>⟨λe=>q.1 (Nat.succ.inj e),q.2⟩
theorem j6{α:Type}:∀(l:List α) {n j:Nat} (x:α),j≠n->nth (setN l n x) j=nth l j
 |[],_,_,_,_=>rfl
 |a::l,0,0,_,h=>absurd rfl h
 |a::l,0,j+1,_,_=>rfl
 |a::l,n+1,0,_,_=>rfl
 |a::l,n+1,j+1,x,h=>j6 l x λe=>h (by rw[e])
theorem mO{α:Type}:∀{l:List α} {n:Nat} {y:α} (x:α),nth l n=some y->nth (setN l n x) n=some x
 |[],_,_,_,h=>by injection h
 |a::l,0,_,_,_=>rfl
 |a::l,n+1,_,x,h=>mO (l:=l) x h
theorem jK{α β:Type}:∀{l:List α} {r:List β} {n:Nat} {x:α},l.length=r.length->nth l n=some x->∃y,nth r n=some y
 |[],_,_,_,_,h=>by injection h
 |_::_,[],_,_,h,_=>by injection h
 |a::l,b::r,0,_,_,_=>⟨b,rfl⟩
 |a::l,b::r,n+1,x,e,h=>jK (l:=l) (r:=r) (Nat.succ.inj e) h
def eE(ρ ρ':List Addr):Prop:=∀i a,nth ρ i=some a->nth ρ' i=some a
theorem eE.refl(ρ:List Addr):eE ρ ρ:=λI I h=>h
theorem eE.trans{a b c:List Addr}(x:eE a b)(y:eE b c):eE a c:=λi d h=>y i d (x i d h)
theorem eE.app(ρ l:List Addr):eE ρ (ρ++l):=λI I h=>jF l h
def fV(h h':Heap):Prop:=∀a z',IsTup h a z'->IsTup h' a z'
theorem fV.of_keeps{h h':Heap}(k:∀b o,h.get? b=some o->h'.get? b=some o):fV h h':=λI I x=>x.keeps k
mutual
theorem dH.mono{ρ ρ':List Addr}{h h':Heap}(g:∀(i:Nat) (a:Addr),ρ[i]?=some a->ρ'[i]?=some a)(k:fV h h'):∀{v:V} {x:Value},dH ρ h v x->dH ρ' h' v x
 | .none,_,e=>e
 | .bool _,_,e=>e
 | .int _ _,_,e=>e
 | .str _ _,_,e=>e
 | .tup _,_,zh2=>by
  obtain⟨a,z',e,t,r⟩:=zh2;exact⟨a,z',e,k _ _ t,dy.mono g k r⟩
 | .obj _,_,zh2=>by
  obtain⟨a,e,q⟩:=zh2;exact⟨a,g _ _ e,q⟩
 | .val _,_,e=>e
 | .bi _,_,e=>e
theorem dy.mono{ρ ρ':List Addr}{h h':Heap}(g:∀(i:Nat) (a:Addr),ρ[i]?=some a->ρ'[i]?=some a)(k:fV h h'):∀{v:List V} {x:List Value},dy ρ h v x->dy ρ' h' v x
 |[],_,e=>e
 |_::_,_,zh2=>by
  obtain⟨x,xs,e,a,b⟩:=zh2;exact⟨x,xs,e,dH.mono g k a,dy.mono g k b⟩
end
section
variable{ρ ρ':List Addr} {h h' h₀:Heap} {nm:Nat->Str} {a b:Addr} {P:PW} {o o':O} {σ σ':List O} {i:Nat} {s s':Shared}
theorem eE.get(g:eE ρ ρ'):∀(i:Nat) (a:Addr),ρ[i]?=some a->ρ'[i]?=some a:=λi a e=>by
 rw[<-dP] at e ⊢;exact g i a e
theorem dH.up{v:V}{x:Value}(r:dH ρ h v x)(g:eE ρ ρ')(k:fV h h'):dH ρ' h' v x:=r.mono g.get k
theorem dy.up{v:List V}{x:List Value}(r:dy ρ h v x)(g:eE ρ ρ')(k:fV h h'):dy ρ' h' v x:=r.mono g.get k
theorem dy.nil:dy ρ h [] []:=rfl
theorem dy.cons{v:V}{x:Value}{vs:List V}{xs:List Value}(a:dH ρ h v x)(b:dy ρ h vs xs):dy ρ h (v::vs) (x::xs):=⟨x,xs,rfl,a,b⟩
theorem dy.length:∀{vs:List V} {xs:List Value},dy ρ h vs xs->xs.length=vs.length
 |[],_,e=>by cases e;rfl
 |_::_,_,zh2=>by
  obtain⟨_,_,e,_,r⟩:=zh2;subst e;exact az (·+1) r.length
theorem dy.app:∀{vs ws:List V} {xs ys:List Value},dy ρ h vs xs->dy ρ h ws ys->dy ρ h (vs++ws) (xs++ys)
 |[],_,_,_,e,r=>by cases e;exact r
 |_::_,_,_,_,zh4,r=>by
  obtain⟨x,xs,e,a,b⟩:=zh4;subst e;exact⟨x,_,rfl,a,b.app r⟩
theorem dy.nth{ρ:List Addr}{h:Heap}:∀{vs:List V} {xs:List Value} {n:Nat} {v:V},dy ρ h vs xs->Internal.nth vs n=some v->∃x,xs[n]?=some x/\dH ρ h v x
 |[],_,_,_,_,e=>by injection e
 |w::vs,_,0,v,zh4,q=>by
  obtain⟨x,xs,e,a,b⟩:=zh4;subst e;cases q;exact⟨x,by simp,a⟩
 |w::vs,_,n+1,v,zh4,q=>by
  obtain⟨x,xs,e,a,b⟩:=zh4;subst e;obtain⟨y,hy,r⟩:=dy.nth (n:=n) b q;exact⟨y,by simpa using hy,r⟩
theorem dy.setN{ρ:List Addr}{h:Heap}{v:V}{x:Value}(hv:dH ρ h v x):∀{vs:List V} {xs:List Value} (n:Nat),dy ρ h vs xs->dy ρ h (Internal.setN vs n v) (xs.set n x)
 |[],_,n,e=>by cases e;exact rfl
 |w::vs,_,0,zh3=>by
  obtain⟨y,ys,e,a,b⟩:=zh3;subst e;exact⟨x,ys,rfl,hv,b⟩
 |w::vs,_,n+1,zh3=>by
  obtain⟨y,ys,e,a,b⟩:=zh3;subst e;exact⟨y,_,rfl,a,dy.setN hv n b⟩
theorem hU.up(g:eE ρ ρ')(k:fV h h'):∀{fs:List (Nm×V)} {es:List DictEntry},hU nm ρ h fs es->hU nm ρ' h' fs es
 |[],_,e=>e
 |_::_,_,zh2=>by
  obtain⟨hs,t,x,r,e,a,b⟩:=zh2;exact⟨hs,t,x,r,e,a.up g k,b.up g k⟩
def IN(x:Obj):Prop:=x.cls= .type "tuple"/\∃z' n,x.data= .seq z' n
def vj(h:Heap)(b:Addr):Prop:=∃x,h.get? b=some x/\¬IN x
theorem vj.one{x:Obj}(e:h.get? a=some x)(q:¬IN x):∀b∈[a],vj h b:=λb m=>aj.mp m▸⟨x,e,q⟩
theorem sv{x:Obj}{c:Value}(e:x.cls=c)(ne:c≠ .type "tuple"):¬IN x:=λt=>ne (e.symm.trans t.1)
theorem j4.spot(r:j4 nm P ρ h a o):∀b∈foot a o,vj h b:=by
 cases o with
 |frame m=>
  obtain⟨m',⟨o,es,ep,ho,hd',_⟩,_⟩:=r;exact vj.one ho λt=>by obtain⟨_,z',n,hd⟩:=t;rw[hd'] at hd;injection hd
 |list y xs=>
  obtain⟨z',n,ho,_⟩:=r;exact vj.one ho (sv rfl λe=>absurd (cq e) ())
 |stk top u'=>
  obtain⟨z',n,ho,_⟩:=r;exact vj.one ho (sv rfl λe=>absurd (cq e) ())
 |inst C fs=>
  obtain⟨es,n,_,h1,h2,_⟩:=r;exact λb m=>(aD.mp m).elim (λe=>e▸⟨_,h1,sv rfl λe=>by injection e⟩) (vj.one h2 (sv rfl λe=>absurd (cq e) ()) b)
 |dict ks=>
  obtain⟨kvs,⟨o,es,n,ho,⟨hcl,_⟩,_⟩,_⟩:=r;exact vj.one ho (sv hcl λe=>absurd (cq e) ())
 |any=>
  obtain⟨o,ho,hn⟩:=r;exact vj.one ho λt=>hn t.1
theorem j4.notTup(r:j4 nm P ρ h a o)(b:Addr)(hb:b∈foot a o)(z':Array Value):¬IsTup h b z':=λz=>by
 obtain⟨t,ht,hc,n,hd⟩:=z;obtain⟨x,e,q⟩:=r.spot b hb;exact q (ac (ht.symm.trans e)▸⟨hc,z',n,hd⟩)
theorem j4.there(r:j4 nm P ρ h a o)(b:Addr)(hb:b∈foot a o):∃x,h.get? b=some x:=by
 obtain⟨x,e,q⟩:=r.spot b hb;exact⟨x,e⟩
theorem j4.up(g:eE ρ ρ')(k:fV h h')(s:∀b∈foot a o,∀x,h.get? b=some x->h'.get? b=some x)(r:j4 nm P ρ h a o):j4 nm P ρ' h' a o:=by
 cases o with
 |frame m=>
  obtain⟨m',⟨o,es,ep,ho,hd',hk,hf⟩,z⟩:=r;exact⟨m',⟨o,es,ep,s a (.head _) _ ho,hd',hk,hf⟩,λn v e=>let⟨x,p,q⟩:=z n v e;⟨x,p,q.up g k⟩⟩
 |list y xs=>
  obtain⟨z',n,ho,z⟩:=r;exact⟨z',n,s a (.head _) _ ho,z.up g k⟩
 |stk top u'=>
  obtain⟨z',n,ho,z⟩:=r;exact⟨z',n,s a (.head _) _ ho,z.up g k⟩
 |inst C fs=>
  obtain⟨es,n,h0,h1,h2,z⟩:=r;exact⟨es,n,h0,s a (.head _) _ h1,s (a - 1) (.tail _ (.head _)) _ h2,z.up g k⟩
 |dict ks=>
  obtain⟨kvs,⟨o,es,n,ho,z⟩,e⟩:=r;exact⟨kvs,⟨o,es,n,s a (.head _) _ ho,z⟩,e⟩
 |any=>
  obtain⟨o,ho,hn⟩:=r;exact⟨o,s a (.head _) _ ho,hn⟩
theorem dC:∀{ρ:List Addr} {σ:List O} {b:Addr},b∈dA ρ σ↔∃i a o,nth ρ i=some a/\nth σ i=some o/\b∈foot a o
 |[],σ,b=>by
   constructor
   .intro h;cases h
   .rintro⟨i,a,o,e,_⟩;injection e
 |a::ρ,[],b=>by
   constructor
   .intro h;cases h
   .rintro⟨i,a,o,_,e,_⟩;injection e
 |a::ρ,o::σ,b=>by
  show b∈foot a o++dA ρ σ↔_;rw[bj,dC];constructor
  .rintro(h | ⟨i,a',o',e1,e2,h⟩)
   .exact⟨0,a,o,rfl,rfl,h⟩
   .exact⟨i+1,a',o',e1,e2,h⟩
  .rintro⟨i,a',o',e1,e2,h⟩
   cases i with
   |zero=>cases e1;cases e2;exact .inl h
   |succ i=>exact .inr ⟨i,a',o',e1,e2,h⟩
structure kB(nm:Nat->Str)(P:PW)(h₀:Heap)(ρ:List Addr)(σ:List O)(h:Heap):Prop where
 len:ρ.length=σ.length
 rep:∀i a o,nth ρ i=some a->nth σ i=some o->j4 nm P ρ h a o
 apart:∀i j a b o q,nth ρ i=some a->nth σ i=some o->nth ρ j=some b->nth σ j=some q->i≠j->∀x∈foot a o,x∉foot b q
 new:∀x∈dA ρ σ,h₀.get? x=none
 old:∀b o,h₀.get? b=some o->h.get? b=some o
theorem kB.there(R:kB nm P h₀ ρ σ h)(m:b∈dA ρ σ):∃x,h.get? b=some x:=by
 obtain⟨i,a,o,e1,e2,m⟩:=dC.mp m;exact(R.rep i a o e1 e2).there b m
theorem kB.notTup(R:kB nm P h₀ ρ σ h)(m:b∈dA ρ σ)(z':Array Value):¬IsTup h b z':=by
 obtain⟨i,a,o,e1,e2,m⟩:=dC.mp m;exact(R.rep i a o e1 e2).notTup b m z'
theorem kB.tupKeep(R:kB nm P h₀ ρ σ h)(k:∀b x,h.get? b=some x->b∉dA ρ σ->h'.get? b=some x):fV h h':=λa z' t=>by
 have:=t;obtain⟨o,ho,r⟩:=t;exact⟨o,k a o ho λm=>R.notTup m z' this,r⟩
theorem kB.keeps(R:kB nm P h₀ ρ σ h)(k:∀b x,h.get? b=some x->h'.get? b=some x):kB nm P h₀ ρ σ h':=
 ⟨R.len,λi a o e1 e2=>(R.rep i a o e1 e2).up (.refl _) (.of_keeps k) λb I x e=>k b x e,R.apart,R.new,λb o e=>k b o (R.old b o e)⟩
theorem kB.cell(R:kB nm P h₀ ρ σ h)(e:nth σ i=some o):∃a,nth ρ i=some a/\j4 nm P ρ h a o:=by
 obtain⟨a,ha⟩:=jK R.len.symm e;exact⟨a,ha,R.rep i a o ha e⟩
theorem kB.at(R:kB nm P h₀ ρ σ h)(ha:nth ρ i=some a)(e:nth σ i=some o):j4 nm P ρ h a o:=R.rep i a o ha e
theorem yL{j:Nat}{q:O}(ha:nth ρ i=some a)(ho:nth σ i=some o)(hf:foot a o'=foot a o)(e1:nth ρ j=some b)(e2:nth (setN σ i o') j=some q):∃q',nth σ j=some q'/\foot b q=foot b q':=by
 rcases pH e2 with g | g
 .have eb:=ac (ha.symm.trans (g.1▸e1))
  exact⟨o,g.1▸ho,by rw[g.2,<-eb];exact hf⟩
 .exact⟨q,g.2,rfl⟩
theorem xx{x:Addr}(ha:nth ρ i=some a)(ho:nth σ i=some o)(hf:foot a o'=foot a o)(m:x∈dA ρ (setN σ i o')):x∈dA ρ σ:=by
 obtain⟨j,b,q,e1,e2,m⟩:=dC.mp m;obtain⟨q',f1,f2⟩:=yL ha ho hf e1 e2;exact dC.mpr ⟨j,b,q',e1,f1,f2▸m⟩
theorem kB.set(R:kB nm P h₀ ρ σ h)(ha:nth ρ i=some a)(ho:nth σ i=some o)(hf:foot a o'=foot a o)
  (k:∀b x,h.get? b=some x->b∉foot a o->h'.get? b=some x) (r:j4 nm P ρ h' a o'):kB nm P h₀ ρ (setN σ i o') h':=by
 refine⟨by rw[oY];exact R.len,λj b q e1 e2=>?_,λj l b c q t e1 e2 e3 e4 ne x m=>?_,λx m=>R.new x (xx ha ho hf m),λb x e=>?_⟩
 .rcases pH e2 with g | g
  .have eb:a=b:=ac (ha.symm.trans (g.1▸e1))
   rw[g.2,<-eb];exact r
  .exact(R.rep j b q e1 g.2).up (.refl _) (R.tupKeep λb x e m=>k b x e λq=>m (dC.mpr ⟨i,a,o,ha,ho,q⟩)) λc m x z=>k c x z (R.apart j i b a q o e1 g.2 ha ho g.1 c m)
 .obtain⟨q',f1,f2⟩:=yL ha ho hf e1 e2
  obtain⟨t',g1,g2⟩:=yL ha ho hf e3 e4;exact g2▸R.apart j l b c q' t' e1 f1 e3 g1 ne x (f2▸m)
 .refine k b x (R.old b x e) λm=>?_
  have:=R.new b (dC.mpr ⟨i,a,o,ha,ho,m⟩);rw[e] at this;injection this
theorem mJ:∀{ρ:List Addr} {σ:List O} (a:Addr) (o:O),ρ.length=σ.length->∀x,x∈dA (ρ++[a]) (σ++[o])↔x∈dA ρ σ\/x∈foot a o
 |[],[],a,o,_,x=>by
  show x∈foot a o++[]↔x∈[]\/x∈foot a o;simp
 |[],_::_,_,_,e,_=>by injection e
 |_::_,[],_,_,e,_=>by injection e
 |b::ρ,q::σ,a,o,e,x=>by
  show x∈foot b q++dA (ρ++[a]) (σ++[o])↔x∈foot b q++dA ρ σ\/_;rw[bj,bj,mJ a o (Nat.succ.inj e),or_assoc]
theorem pM{q:O}(len:ρ.length=σ.length)(e1:nth (ρ++[a]) i=some b)(e2:nth (σ++[o]) i=some q):(nth ρ i=some b/\nth σ i=some q)\/(i=ρ.length/\foot b q=foot a o/\b=a/\q=o):=
 (j8 e1).elim (λf1=>(j8 e2).elim (λf2=>.inl ⟨f1,f2⟩) λg=>absurd (fO f1) (cF.mpr (aY (len.trans g.1.symm))))
  λf=>(j8 e2).elim (λf2=>absurd (fO f2) (cF.mpr (aY (len.symm.trans f.1.symm)))) λg=>.inr ⟨f.1,f.2▸g.2▸rfl,f.2,g.2⟩
theorem kB.push(R:kB nm P h₀ ρ σ h)(k:∀b x,h.get? b=some x->h'.get? b=some x)(nf:∀x∈foot a o,h.get? x=none)
  (r:j4 nm P (ρ++[a]) h' a o):kB nm P h₀ (ρ++[a]) (σ++[o]) h':=by
 have fresh:∀x∈foot a o,x∉dA ρ σ:=λx m q=>by
  obtain⟨y,e⟩:=R.there q;rw[nf x m] at e;injection e
 refine⟨by rw[ai,ai,R.len];rfl,λi b q e1 e2=>?_,λi j b c q t e1 e2 e3 e4 ne x m m'=>?_,λx m=>?_,λb x e=>k b x (R.old b x e)⟩
 .exact(pM R.len e1 e2).elim (λf=>(R.rep i b q f.1 f.2).up (.app ρ [a]) (.of_keeps k) λb I x e=>k b x e) λg=>by rw[g.2.2.1,g.2.2.2];exact r
 .exact(pM R.len e1 e2).elim (λf=>(pM R.len e3 e4).elim (λg=>R.apart i j b c q t f.1 f.2 g.1 g.2 ne x m m') λg=>fresh x (g.2.1▸m') (dC.mpr ⟨i,b,q,f.1,f.2,m⟩))
   λf=>(pM R.len e3 e4).elim (λg=>fresh x (f.2.1▸m) (dC.mpr ⟨j,c,t,g.1,g.2,m'⟩)) λg=>ne (f.1.trans g.1.symm)
 .refine((mJ a o R.len x).mp m).elim (R.new x) λm=>?_
  cases e:h₀.get? x with
  |none=>rfl
  |some y=>have:=R.old x y e;rw[nf x m] at this;injection this
structure eR(nm:Nat->Str)(P:PW)(h₀:Heap)(ρ:List Addr)(σ:List O)(s:Shared)(ρ':List Addr)(σ':List O)(s':Shared):Prop where
 grow:eE ρ ρ'
 rel:kB nm P h₀ ρ' σ' s'.heap
 keep:∀b x,s.heap.get? b=some x->b∉dA ρ σ->s'.heap.get? b=some x
 fresh:∀x∈dA ρ' σ',x∈dA ρ σ\/s.heap.get? x=none
 gens:s'.gens=s.gens
 os:s'.os=s.os
 frm:∀i m,nth σ i=some (.frame m)->∃m',nth σ' i=some (.frame m')
theorem eR.refl(R:kB nm P h₀ ρ σ s.heap):eR nm P h₀ ρ σ s ρ σ s:=⟨.refl _,R,λI I e I=>e,λI m=>.inl m,rfl,rfl,λI m e=>⟨m,e⟩⟩
theorem eR.trans{ρ'':List Addr}{σ'':List O}{s'':Shared}(a:eR nm P h₀ ρ σ s ρ' σ' s')(b:eR nm P h₀ ρ' σ' s' ρ'' σ'' s''):eR nm P h₀ ρ σ s ρ'' σ'' s'':=by
 refine⟨a.grow.trans b.grow,b.rel,λc x e m=>?_,λx m=>?_,b.gens.trans a.gens,b.os.trans a.os,λi m e=>let⟨m1,e1⟩:=a.frm i m e;b.frm i m1 e1⟩
 .refine b.keep c x (a.keep c x e m) λq=>?_
  rcases a.fresh c q with q | q
  .exact m q
  .rw[e] at q;injection q
 .rcases b.fresh x m with q | q
  .exact a.fresh x q
  .cases e:s.heap.get? x with
   |none=>exact .inr rfl
   |some y=>
    by_cases m':x∈dA ρ σ
    .exact .inl m'
    .rw[a.keep x y e m'] at q;injection q
theorem eR.tk(a:eR nm P h₀ ρ σ s ρ' σ' s')(R:kB nm P h₀ ρ σ s.heap):fV s.heap s'.heap:=R.tupKeep a.keep
theorem eR.v(a:eR nm P h₀ ρ σ s ρ' σ' s')(R:kB nm P h₀ ρ σ s.heap){v:V}{x:Value}(r:dH ρ s.heap v x):dH ρ' s'.heap v x:=r.up a.grow (a.tk R)
theorem eR.vs(a:eR nm P h₀ ρ σ s ρ' σ' s')(R:kB nm P h₀ ρ σ s.heap){v:List V}{x:List Value}(r:dy ρ s.heap v x):dy ρ' s'.heap v x:=r.up a.grow (a.tk R)
theorem eR.more0(R:kB nm P h₀ ρ σ s.heap)(k:∀b x,s.heap.get? b=some x->s'.heap.get? b=some x)(hg:s'.gens=s.gens)(ho:s'.os=s.os):eR nm P h₀ ρ σ s ρ σ s':=
 ⟨.refl _,R.keeps k,λb x e I=>k b x e,λI m=>.inl m,hg,ho,λI m e=>⟨m,e⟩⟩
theorem eR.more(R:kB nm P h₀ ρ σ s.heap)(k:∀b x,s.heap.get? b=some x->s'.heap.get? b=some x)(hg:s'.gens=s.gens)(ho:s'.os=s.os)(_hz:s.heap.objs.size<=s'.heap.objs.size):eR nm P h₀ ρ σ s ρ σ s':=
 ⟨.refl _,R.keeps k,λb x e I=>k b x e,λI m=>.inl m,hg,ho,λI m e=>⟨m,e⟩⟩
def Mn:O->Bool
 | .frame _=>true
 |_=>false
theorem hkF{x y:List (Nm×V)}:∀m,O.frame x= .frame m->∃m',O.frame y= .frame m':=λI I=>⟨y,rfl⟩
theorem hkN(h:Mn o=false):∀m,o= .frame m->∃m',o'= .frame m':=λm e=>by rw[e] at h;cases h
theorem eR.setC(R:kB nm P h₀ ρ σ s.heap)(ha:nth ρ i=some a)(ho:nth σ i=some o)(hf:foot a o'=foot a o)
  (k:∀b x,s.heap.get? b=some x->b∉foot a o->s'.heap.get? b=some x) (r:j4 nm P ρ s'.heap a o') (hg:s'.gens=s.gens) (hos:s'.os=s.os) (_hz:s.heap.objs.size<=s'.heap.objs.size)
  (hk:∀m,o= .frame m->∃m',o'= .frame m':=by walk_at "f"):
  eR nm P h₀ ρ σ s ρ (setN σ i o') s':=by
 refine⟨.refl _,R.set ha ho hf k r,λb x e m=>k b x e λq=>m (dC.mpr ⟨i,a,o,ha,ho,q⟩),λx m=>.inl (xx ha ho hf m),hg,hos,λj m e=>?_⟩
 by_cases q:j=i
 .obtain⟨m',e'⟩:=hk m (ac (ho.symm.trans (q▸e)))
  exact⟨m',by rw[q,mO _ ho,e']⟩
 .exact⟨m,(j6 _ _ q).trans e⟩
theorem eR.pushC(R:kB nm P h₀ ρ σ s.heap)(k:∀b x,s.heap.get? b=some x->s'.heap.get? b=some x)(nf:∀x∈foot a o,s.heap.get? x=none)
  (r:j4 nm P (ρ++[a]) s'.heap a o) (hg:s'.gens=s.gens) (hos:s'.os=s.os) (_hz:s.heap.objs.size<=s'.heap.objs.size):eR nm P h₀ ρ σ s (ρ++[a]) (σ++[o]) s':=
 ⟨.app _ _,R.push k nf r,λb x e I=>k b x e,λx m=>((mJ a o R.len x).mp m).imp id (nf x),hg,hos,λI m e=>⟨m,jF _ e⟩⟩
end
end
section
set_option backward.match.sparseCases false
theorem cW{a b:Bool}(h:(a&&b)=true):a=true/\b=true:=a9.mp h
/-! what a text holds -/
structure MJ where
 t:Nat:=0
 p:Pos:=default
 e1:Expr:=default
 e2:Expr:=default
 l:List Expr:=[]
 n:Nat:=0
 a:Option Expr:=none
 b:Option Expr:=none
 c:Option Expr:=none
 s:Scope:=default
 o:Operator:=.Add
 os:List CmpOp:=[]
 bo:BoolOp:=.Or
 x:Str:=default
 k:Const:=.none
 ks:List Keyword:=[]
 gs:List Comprehension:=[]
 e3:Expr:=default
 uo:UnaryOp:=.Not
 dk:List (Option Expr):=[]
def de:Expr->MJ
 | .Call f as ks p=>{t:=1,p,e1:=f,l:=as,ks}
 | .Attribute o x p=>{t:=2,p,e1:=o,x}
 | .Subscript o i p=>{t:=3,p,e1:=o,e2:=i}
 | .BinOp l o r p=>{t:=4,p,e1:=l,o,e2:=r}
 | .Compare l os r p=>{t:=5,p,e1:=l,os,l:=r}
 | .ListComp e gs s p=>{t:=6,p,e1:=e,gs,s}
 | .BoolOp bo l p=>{t:=7,p,bo,l}
 | .Tuple l n p=>{t:=8,p,l,n}
 | .List l p=>{t:=9,p,l}
 | .Constant k n p=>{t:=10,p,k,n}
 | .Name x p=>{t:=11,p,x}
 | .Slice a b c p=>{t:=12,p,a,b,c}
 | .UnaryOp uo e p=>{t:=13,p,uo,e1:=e}
 | .IfExp a b c p=>{t:=14,p,e1:=a,e2:=b,e3:=c}
 | .Dict dk l p=>{t:=15,p,dk,l}
 | .Starred _ _=>{t:=16}
 | .SetComp _ _ _ _=>{t:=17}
 | .DictComp _ _ _ _ _=>{t:=17}
 |_=>{}
def Mv(y:Expr)(K:MJ):Nat->Expr
 |1=>.Call K.e1 K.l K.ks K.p
 |2=>.Attribute K.e1 K.x K.p
 |3=>.Subscript K.e1 K.e2 K.p
 |4=>.BinOp K.e1 K.o K.e2 K.p
 |5=>.Compare K.e1 K.os K.l K.p
 |6=>.ListComp K.e1 K.gs K.s K.p
 |7=>.BoolOp K.bo K.l K.p
 |8=>.Tuple K.l K.n K.p
 |9=>.List K.l K.p
 |10=>.Constant K.k K.n K.p
 |11=>.Name K.x K.p
 |12=>.Slice K.a K.b K.c K.p
 |13=>.UnaryOp K.uo K.e1 K.p
 |14=>.IfExp K.e1 K.e2 K.e3 K.p
 |15=>.Dict K.dk K.l K.p
 |_=>y
theorem Mp(y:Expr):Mv y (de y) (de y).t=y:=by cases y<;>rfl
theorem mI{y:Expr}{t:Nat}(h:Nat.beq (de y).t t):y=Mv y (de y) t:=by rw[<-aP h,Mp]
def k1(y:Expr):Expr:=(de y).e1
def k2(y:Expr):Expr:=(de y).e2
def kL(y:Expr):List Expr:=(de y).l
def kQ(y:Expr):Pos:=(de y).p
def kG(y:Expr):Comprehension:=(de y).gs.headD ⟨default,default,[],0⟩
abbrev ic(l:List Expr):Expr:=l.headD default
abbrev Kk(l:List Stmt):Stmt:=l.headD default
def oE(o:Option Expr):Expr:=o.getD default
structure MV where
 t:Nat:=0
 p:Pos:=default
 l:List Expr:=[]
 e1:Expr:=default
 e2:Expr:=default
 b:List Stmt:=[]
 e:List Stmt:=[]
 o:Option Expr:=none
 op:Operator:=.Add
 o2:Option Expr:=none
 hs:List ExceptHandler:=[]
 f:List Stmt:=[]
def gi:Stmt->MV
 | .Assign l v p=>{t:=1,p,l,e2:=v}
 | .For e1 e2 b e p=>{t:=2,p,e1,e2,b,e}
 | .If e1 b e p=>{t:=3,p,e1,b,e}
 | .Return o p=>{t:=4,p,o}
 | .Expr e1 p=>{t:=5,p,e1}
 | .AugAssign e1 op e2 p=>{t:=6,p,e1,op,e2}
 | .While e1 b e p=>{t:=7,p,e1,b,e}
 | .Break p=>{t:=8,p}
 | .Continue p=>{t:=9,p}
 | .Pass p=>{t:=10,p}
 | .Raise o o2 p=>{t:=11,p,o,o2}
 | .Try b hs e f p=>{t:=12,p,b,hs,e,f}
 |_=>{}
def MK(y:Stmt)(K:MV):Nat->Stmt
 |1=>.Assign K.l K.e2 K.p
 |2=>.For K.e1 K.e2 K.b K.e K.p
 |3=>.If K.e1 K.b K.e K.p
 |4=>.Return K.o K.p
 |5=>.Expr K.e1 K.p
 |6=>.AugAssign K.e1 K.op K.e2 K.p
 |7=>.While K.e1 K.b K.e K.p
 |8=>.Break K.p
 |9=>.Continue K.p
 |10=>.Pass K.p
 |11=>.Raise K.o K.o2 K.p
 |12=>.Try K.b K.hs K.e K.f K.p
 |_=>y
theorem L8(y:Stmt):MK y (gi y) (gi y).t=y:=by cases y<;>rfl
theorem atS{y:Stmt}{t:Nat}(h:Nat.beq (gi y).t t):y=MK y (gi y) t:=by rw[<-aP h,L8]
def sT(y:Stmt):Expr:=(gi y).e1
def sG(y:Stmt):Expr:=ic (gi y).l
def sO(y:Stmt):Expr:=oE (gi y).o
def sV(y:Stmt):Expr:=(gi y).e2
def sW(y:Stmt):List Stmt:=(gi y).b
def sE(y:Stmt):List Stmt:=(gi y).e
def sQ(y:Stmt):Pos:=(gi y).p
structure M7 where
 t:Option Expr:=none
 w:Option Str:=none
 b:List Stmt:=[]
 p:Pos:=default
def nR:ExceptHandler->M7
 | .ExceptHandler t w b p=>{t,w,b,p}
theorem LZ(h:ExceptHandler):h= .ExceptHandler (nR h).t (nR h).w (nR h).b (nR h).p:=by cases h;rfl
theorem iv{α:Type}{l:List α}(h:l.isEmpty):l=[]:=List.isEmpty_iff.mp h
theorem p8{α:Type}{l:List α}(d:α)(h:Nat.beq l.length 1):l=[l.headD d]:=by
 match l,aP h with
 |[a],_=>rfl
theorem wW{o:Option Expr}(h:o.isSome):o=some (oE o):=by
 match o,h with
 |some _,_=>rfl
theorem rf{α:Type}[Inhabited α]{l:List α}(h:(!l.isEmpty)=true):l=l.headD default::l.tail:=by
 match l,h with
 |_::_,_=>rfl
theorem mv{b:Bool}(h:(!b)=true):b=false:=by
 match b,h with
 |false,_=>rfl
end
section
set_option backward.match.sparseCases false
section
variable(nm:Nat->Str) (sc:Scope)
def oW(e:Expr):Bool:= !Nat.beq (de e).t 16
def j9:Expr->Bool
 | .Call (.Name x _) [] [] _=>x != "super"
 |_=>true
def kJ(e:Expr):Bool:= !Nat.beq (de e).t 12
def Ap(e:Expr):Bool:=Nat.beq (de e).t 11
def yU(k:Nat):Str:=match k with
 |0=>"append"
 |1=>"pop"
 |2=>"extend"
 |_=>"reverse"
def se(n:Nm)(x:Str):Bool:=x==nm n&&sc.names.lookup x==some .local&&x != "__debug__"
def Id(n:Nm)(x:Str):Bool:=x==nm n&&sc.names.lookup x==some .globalImplicit&&x != "__debug__"
def zf(x:Str)(e:Expr):Bool:=Nat.beq (de e).t 1&&(de e).ks.isEmpty&&Nat.beq (de (k1 e)).t 2&&(de (k1 e)).x==x&&j9 (k1 (k1 e))&&((kQ (k1 e)).endLine==(kQ e).line)&&decide ((kL e).length<30)
mutual
noncomputable def dO:ME->Expr->Bool
 | .oth,e=>oW e
 | .cst c,e=>Nat.beq (de e).t 10&&decide ((de e).k=c)
 | .loc n,e=>Nat.beq (de e).t 11&&se nm sc n (de e).x
 | .glb n,e=>Nat.beq (de e).t 11&&Id nm sc n (de e).x
 | .tup es,e=>Nat.beq (de e).t 8&&fX es (kL e)
 | .lst es,e=>Nat.beq (de e).t 9&&fX es (kL e)
 | .dct,e=>Nat.beq (de e).t 15&&(de e).dk.isEmpty&&(kL e).isEmpty
 | .bin op l r,e=>Nat.beq (de e).t 4&&decide ((de e).o=op)&&dO l (k1 e)&&dO r (k2 e)
 | .not x,e=>Nat.beq (de e).t 13&&decide ((de e).uo= .Not)&&dO x (k1 e)
 | .bop a es,e=>Nat.beq (de e).t 7&&decide ((de e).bo=if a=true then .And else .Or)&&fX es (kL e)
 | .cmp op l r,e=>Nat.beq (de e).t 5&&decide ((de e).os=[op])&&Nat.beq (kL e).length 1&&(!behindInMarks op (ic (kL e)))&&dO l (k1 e)&&dO r (ic (kL e))
 | .ite t a b,e=>Nat.beq (de e).t 14&&dO t (k1 e)&&dO a (k2 e)&&dO b (de e).e3
 | .attr o n,e=>Nat.beq (de e).t 2&&(de e).x==nm n&&j9 (k1 e)&&dO o (k1 e)
 | .item o i,e=>Nat.beq (de e).t 3&&kJ (k2 e)&&dO o (k1 e)&&dO i (k2 e)
 | .slice o lo hi,e=>Nat.beq (de e).t 3&&Nat.beq (de (k2 e)).t 12&&(de (k2 e)).c.isNone&&dO o (k1 e)&&vK lo (de (k2 e)).a&&vK hi (de (k2 e)).b
 | .call f as,e=>Nat.beq (de e).t 1&&(de e).ks.isEmpty&&Ap (k1 e)&&dO f (k1 e)&&fX as (kL e)
 | .meth o n as,e=>zf (nm n) e&&dO o (k1 (k1 e))&&fX as (kL e)
 | .lmeth k o as,e=>zf (yU k) e&&dO o (k1 (k1 e))&&fX as (kL e)
noncomputable def fX:List ME->List Expr->Bool
 |[],e=>e.isEmpty
 |m::ms,e=> !e.isEmpty&&dO m (ic e)&&fX ms e.tail
noncomputable def vK:Option ME->Option Expr->Bool
 |none,e=>e.isNone
 |some m,e=>e.isSome&&dO m (oE e)
end
theorem gQ:∀(m:ME) (e:Expr),dO nm sc m e=true->oW e=true:=by
 intro m e h;cases e<;>first | rfl | (cases m<;>cases h)
section
variable{e:Expr} {n:Nm} {x:Str} {es as:List ME} {o:ME}
theorem ru{c:Const}(h:dO nm sc (.cst c) e):∃k p,e= .Constant c k p:=
 have a:=cW h
 ⟨_,_,(mI a.1).trans (az (Expr.Constant · (de e).n (kQ e)) (aS a.2))⟩
theorem sx(h:se nm sc n x):x=nm n/\sc.names.lookup (nm n)=some .local/\(nm n==("__debug__":Str))=false:=by
 have a:=cW h;have b:=cW a.1;have e:=am.mp b.1;subst e;exact⟨rfl,am.mp b.2,mv a.2⟩
theorem Dd(h:Id nm sc n x):x=nm n/\sc.names.lookup (nm n)=some .globalImplicit/\(nm n==("__debug__":Str))=false:=by
 have a:=cW h;have b:=cW a.1;have e:=am.mp b.1;subst e;exact⟨rfl,am.mp b.2,mv a.2⟩
theorem uK(h:Nat.beq (de e).t 11)(hx:(de e).x=x):e= .Name x (kQ e):=(mI h).trans (az (Expr.Name · (kQ e)) hx)
theorem uV(h:dO nm sc (.loc n) e):∃p,e= .Name (nm n) p/\sc.names.lookup (nm n)=some .local/\(nm n==("__debug__":Str))=false:=
 have a:=cW h;have b:=sx nm sc a.2
 ⟨_,uK a.1 b.1,b.2⟩
theorem ve(h:dO nm sc (.glb n) e):∃p,e= .Name (nm n) p/\sc.names.lookup (nm n)=some .globalImplicit/\(nm n==("__debug__":Str))=false:=
 have a:=cW h;have b:=Dd nm sc a.2
 ⟨_,uK a.1 b.1,b.2⟩
theorem GJ(h:dO nm sc (.tup es) e):∃es' k p,e= .Tuple es' k p/\fX nm sc es es'=true:=
 have a:=cW h
 ⟨_,_,_,mI a.1,a.2⟩
theorem F9(h:dO nm sc (.lst es) e):∃es' p,e= .List es' p/\fX nm sc es es'=true:=
 have a:=cW h
 ⟨_,_,mI a.1,a.2⟩
theorem Gl(h:dO nm sc .dct e):∃p,e= .Dict [] [] p:=by
 have a:=cW h;have b:=cW a.1;refine⟨kQ e,(mI b.1).trans ?_⟩;show Expr.Dict (de e).dk (kL e) (kQ e)=_;rw[iv b.2,iv a.2]
theorem Hv{op:Operator}{l r:ME}(h:dO nm sc (.bin op l r) e):∃l' r' p,e= .BinOp l' op r' p/\dO nm sc l l'=true/\dO nm sc r r'=true:=
 have a:=cW h;have b:=cW a.1;have c:=cW b.1
 ⟨_,_,_,(mI c.1).trans (az (Expr.BinOp (k1 e) · (k2 e) (kQ e)) (aS c.2)),b.2,a.2⟩
theorem Ak{x:ME}(h:dO nm sc (.not x) e):∃x' p,e= .UnaryOp .Not x' p/\dO nm sc x x'=true:=
 have a:=cW h;have b:=cW a.1
 ⟨_,_,(mI b.1).trans (az (Expr.UnaryOp · (k1 e) (kQ e)) (aS b.2)),a.2⟩
theorem zU{a:Bool}(h:dO nm sc (.bop a es) e):∃es' p,e= .BoolOp (if a=true then .And else .Or) es' p/\fX nm sc es es'=true:=
 have a:=cW h;have b:=cW a.1
 ⟨_,_,(mI b.1).trans (az (Expr.BoolOp · (kL e) (kQ e)) (aS b.2)),a.2⟩
theorem As{op:CmpOp}{l r:ME}(h:dO nm sc (.cmp op l r) e):∃l' r' p,e= .Compare l' [op] [r'] p/\behindInMarks op r'=false/\dO nm sc l l'=true/\dO nm sc r r'=true:=
 have a:=cW h;have b:=cW a.1;have c:=cW b.1;have d:=cW c.1;have f:=cW d.1
 ⟨_,_,_,(mI f.1).trans ((az (Expr.Compare (k1 e) · (kL e) (kQ e)) (aS f.2)).trans (az (Expr.Compare (k1 e) [op] · (kQ e)) (p8 default d.2))),mv c.2,b.2,a.2⟩
theorem rF{t a b:ME}(h:dO nm sc (.ite t a b) e):∃t' a' b' p,e= .IfExp t' a' b' p/\dO nm sc t t'=true/\dO nm sc a a'=true/\dO nm sc b b'=true:=
 have a:=cW h;have b:=cW a.1;have c:=cW b.1
 ⟨_,_,_,_,mI c.1,c.2,b.2,a.2⟩
theorem Em(h:dO nm sc (.attr o n) e):∃o' p,e= .Attribute o' (nm n) p/\j9 o'=true/\dO nm sc o o'=true:=
 have a:=cW h;have b:=cW a.1;have c:=cW b.1
 ⟨_,_,(mI c.1).trans (az (Expr.Attribute (k1 e) · (kQ e)) (am.mp c.2)),b.2,a.2⟩
theorem Eo{i:ME}(h:dO nm sc (.item o i) e):∃o' i' p,e= .Subscript o' i' p/\kJ i'=true/\dO nm sc o o'=true/\dO nm sc i i'=true:=
 have a:=cW h;have b:=cW a.1;have c:=cW b.1
 ⟨_,_,_,mI c.1,c.2,b.2,a.2⟩
theorem Cd{lo hi:Option ME}(h:dO nm sc (.slice o lo hi) e):∃o' lo' hi' p q,e= .Subscript o' (.Slice lo' hi' none p) q/\dO nm sc o o'=true/\vK nm sc lo lo'=true/\vK nm sc hi hi'=true:=
 have a:=cW h;have b:=cW a.1;have c:=cW b.1;have d:=cW c.1;have f:=cW d.1
 ⟨_,_,_,_,_,(mI f.1).trans (az (Expr.Subscript (k1 e) · (kQ e)) ((mI f.2).trans (az (Expr.Slice (de (k2 e)).a (de (k2 e)).b · (kQ (k2 e))) (Option.isNone_iff_eq_none.mp d.2)))),c.2,b.2,a.2⟩
theorem mF{f:ME}(h:dO nm sc (.call f as) e):∃f' as' p,e= .Call f' as' [] p/\Ap f'=true/\dO nm sc f f'=true/\fX nm sc as as'=true:=
 have a:=cW h;have b:=cW a.1;have c:=cW b.1;have d:=cW c.1
 ⟨_,_,_,(mI d.1).trans (az (Expr.Call (k1 e) (kL e) · (kQ e)) (iv d.2)),c.2,b.2,a.2⟩
theorem uh(h:zf x e):e= .Call (.Attribute (k1 (k1 e)) x (kQ (k1 e))) (kL e) [] (kQ e)/\j9 (k1 (k1 e))=true/\((kQ (k1 e)).endLine==(kQ e).line)=true/\(kL e).length<30:=
 have a:=cW h;have b:=cW a.1;have c:=cW b.1;have d:=cW c.1;have f:=cW d.1;have g:=cW f.1
 ⟨(mI g.1).trans ((az (Expr.Call (k1 e) (kL e) · (kQ e)) (iv g.2)).trans (az (Expr.Call · (kL e) [] (kQ e)) ((mI f.2).trans (az (Expr.Attribute (k1 (k1 e)) · (kQ (k1 e))) (am.mp d.2))))),c.2,b.2,aS a.2⟩
theorem wc(h:dO nm sc (.meth o n as) e):
  ∃o' ap as' p,e= .Call (.Attribute o' (nm n) ap) as' [] p/\j9 o'=true/\(ap.endLine==p.line)=true/\as'.length<30/\dO nm sc o o'=true/\fX nm sc as as'=true:=
 have a:=cW h;have b:=cW a.1;have m:=uh b.1
 ⟨_,_,_,_,m.1,m.2.1,m.2.2.1,m.2.2.2,b.2,a.2⟩
theorem CA{k:Nat}(h:dO nm sc (.lmeth k o as) e):
  ∃o' ap as' p,e= .Call (.Attribute o' (yU k) ap) as' [] p/\j9 o'=true/\(ap.endLine==p.line)=true/\as'.length<30/\dO nm sc o o'=true/\fX nm sc as as'=true:=
 have a:=cW h;have b:=cW a.1;have m:=uh b.1
 ⟨_,_,_,_,m.1,m.2.1,m.2.2.1,m.2.2.2,b.2,a.2⟩
theorem jq{es:List Expr}(h:fX nm sc [] es):es=[]:=iv h
theorem fK{m:ME}{ms:List ME}{es:List Expr}(h:fX nm sc (m::ms) es):∃x xs,es=x::xs/\dO nm sc m x=true/\fX nm sc ms xs=true:=
 have a:=cW h;have b:=cW a.1
 ⟨_,_,rf b.1,b.2,a.2⟩
theorem uu{e:Option Expr}(h:vK nm sc none e):e=none:=Option.isNone_iff_eq_none.mp h
theorem pX{m:ME}{e:Option Expr}(h:vK nm sc (some m) e):∃x,e=some x/\dO nm sc m x=true:=
 have a:=cW h
 ⟨_,wW a.1,a.2⟩
end
end
theorem ez{env:Env}{e:Expr}{u':List Expr}(h:oW e):starEach (e::u') env=(false,eval e env)::starEach u' env:=by
 cases e<;>first | rfl | cases h
theorem hK{env:Env}{o:Expr}{x:Str}{m:Sem Value}(h:j9 o):attributeBase o x env m=m:=by
 cases o with
 |Call f as ks p=>
  cases f with
  |Name id p'=>
   cases as with
   |cons _ _=>rfl
   |nil=>
    cases ks with
    |cons _ _=>rfl
    |nil=>
     have h:(id != "super")=true:=h;refine if_pos ?_;rw[h];rfl
  |_=>rfl
 |_=>rfl
end
structure Cx where
 prog:Program
 w:World
 K:Frag
 h₀:Heap
 mg:Str->Option Value
 mb:Str->Option Value
 nm:Nat->Str
 P:tR
abbrev Cx.M(c:Cx):Model:=model c.prog c.w
abbrev Cx.R(c:Cx)(ρ:List Addr)(σ:List O)(h:Heap):Prop:=kB c.nm ⟨c.prog,c.w⟩ c.h₀ ρ σ h
abbrev Cx.Rs(c:Cx)(ρ:List Addr)(σ:List O)(s:Shared)(ρ':List Addr)(σ':List O)(s':Shared):Prop:=eR c.nm ⟨c.prog,c.w⟩ c.h₀ ρ σ s ρ' σ' s'
def pA(K:Frag)(C:Addr):Bool:=
 findIn K (.ref C) "__getattribute__"==some (some (.builtin "object.__getattribute__"))&&findIn K (.ref C) "__getattr__"==some none&&hasDictIn K C&&
 findIn K (.ref C) "__setattr__"==some (some (.builtin "object.__setattr__"))&&plainOver K C&&makesIn K C
def CW(K:Frag)(C:Addr)(x:Str):Bool:=findIn K (.ref C) x==some none&&takerIn K C x==some none
def tB(K:Frag)(C:Addr)(x:Str)(f:Addr):Bool:=findIn K (.ref C) x==some (some (.ref f))&&typeIn K (.ref f)==some (.type "function")
structure Cx.Ok(c:Cx):Prop where
 X:c.K.In c.h₀
 g:c.h₀.Ns mainGlobals c.mg
 b:c.h₀.Ns builtinsNs c.mb
 lim:c.h₀.NoLimit
 inj:∀i j,c.nm i=c.nm j->i=j
 glob:∀n v,c.P.glob n=some v->∃x,(c.mg (c.nm n)=some x\/(c.mg (c.nm n)=none/\c.mb (c.nm n)=some x))/\dH [] c.h₀ v x
 cls:∀C f,c.P.cls C=some f->pA c.K C=true/\tB c.K C "__init__" f=true/\keepIn c.K (.ref C)=true
 meth:∀C n f,c.P.meth C n=some f->pA c.K C=true/\tB c.K C (c.nm n) f=true
 fld:∀C n,c.P.fld C n=true->pA c.K C=true/\CW c.K C (c.nm n)=true
def All(l:List Prop):Prop:=∀p∈l,p
theorem All.tail{p:Prop}{l:List Prop}(h:All (p::l)):All l:=λq m=>h q (.tail _ m)
theorem All.head{p:Prop}{l:List Prop}(h:All (p::l)):p:=h p (.head _)
structure ee(A:Around)(n:Nat):Prop where
 depth:A.depth+n<recursionLimit
 units:A.units+8*n<cLine
 handled:A.handled=none
theorem ee.less{A:Around}{n m:Nat}(r:ee A n)(h:m<=n):ee A m:=⟨by have:=r.depth;omega,by have:=r.units;omega,r.handled⟩
structure dE(env:Env)(fi:Nat)(ρ:List Addr):Prop where
 kind:env.scope.kind= .function
 loc:nth ρ fi=some env.locals
 glob:env.globals=mainGlobals
 blt:env.builtins=builtinsNs
theorem dE.grow{env:Env}{fi:Nat}{ρ ρ':List Addr}(x:dE env fi ρ)(g:eE ρ ρ'):dE env fi ρ':=⟨x.kind,g _ _ x.loc,x.glob,x.blt⟩
theorem dE.notCls{env:Env}{fi:Nat}{ρ:List Addr}(x:dE env fi ρ):(env.scope.kind== .class||(env.scope.kind== .module&&env.locals != env.globals))=false:=by rw[x.kind];rfl
section
variable(c:Cx)
def e9(ρ:List Addr):Prop:=eE c.P.ads ρ
def PE(n:Nat)(m:ME)(fi:Nat)(os:List O)(v:V)(H':List O):Prop:=
 ∀(A:Around) (env:Env) (x:Expr) (s:Shared) (ρ:List Addr) (Q E:Value->Shared->Prop),ee A (n+c.P.room)->dE env fi ρ->dO c.nm env.scope m x->c.R ρ os s.heap->e9 c ρ->
  (∀ρ' s' y,c.Rs ρ os s ρ' H' s'->dH ρ' s'.heap v y->Q y s')->wpAny c.M A (eval x env) Q E s
def SE(n:Nat)(e:ME->Nat->St->Option (V×St)):Prop:=∀m fi st v C',e m fi st=some (v,C')->All C'.cs->All st.cs/\PE c n m fi st.os v C'.os
def PT(n:Nat)(m:ME)(fi:Nat)(os:List O)(b:Bool)(H':List O):Prop:=
 ∀(A:Around) (env:Env) (x:Expr) (s:Shared) (ρ:List Addr) (Q:Bool->Shared->Prop) (E:Value->Shared->Prop),ee A (n+c.P.room)->dE env fi ρ->dO c.nm env.scope m x->c.R ρ os s.heap->e9 c ρ->
  (∀ρ' s',c.Rs ρ os s ρ' H' s'->Q b s')->wpAny c.M A (PySem.isTrue x env (eval x env)) Q E s
def ST(n:Nat)(t:ME->Nat->St->Option (Bool×St)):Prop:=∀m fi st b C',t m fi st=some (b,C')->All C'.cs->All st.cs/\PT c n m fi st.os b C'.os
def PC(n:Nat)(a:Nat)(vs:List V)(os:List O)(v:V)(H':List O):Prop:=
 ∀(A:Around) (xs:List Value) (s:Shared) (ρ:List Addr) (Q E:Value->Shared->Prop),ee A (n+c.P.room)->c.R ρ os s.heap->e9 c ρ->dy ρ s.heap vs xs->
  (∀ρ' s' y,c.Rs ρ os s ρ' H' s'->dH ρ' s'.heap v y->Q y s')->codeAny c.M A (.call (.ref a) ⟨xs,[]⟩) (λr s'=>match r with | .ok (.ret v)=>Q v s' | .ok _=>False | .error e=>E e s') s
def SC(n:Nat)(f:Nat->List V->St->Option (V×St)):Prop:=∀a vs st v C',f a vs st=some (v,C')->All C'.cs->All st.cs/\keepIn c.K (.ref a)=true/\PC c n a vs st.os v C'.os
def PL(n:Nat)(ms:List ME)(fi:Nat)(os:List O)(vs:List V)(H':List O):Prop:=
 ∀(A:Around) (env:Env) (pos:Pos) (es:List Expr) (s:Shared) (ρ:List Addr) (Q:List Value->Shared->Prop) (E:Value->Shared->Prop),ee A (n+c.P.room)->dE env fi ρ->fX c.nm env.scope ms es->c.R ρ os s.heap->e9 c ρ->
  (∀ρ' s' ys,c.Rs ρ os s ρ' H' s'->dy ρ' s'.heap vs ys->Q ys s')->wpAny c.M A (spliced (backTo pos (starEach es env))) Q E s
end
def K0{α:Type}(st:St)(T:α->List O->Prop)(v:α)(C':St):Prop:=All C'.cs->All st.cs/\T v C'.os
section
variable{α:Type} {st:St} {c:Cx} {n:Nat}
theorem nX{v:α}{W:α->List O->Prop}(k:W v st.os):oP (some (v,st)) (K0 st W):=λhc=>⟨hc,k⟩
theorem EF{v:α}{W:α->List O->Prop}{p:Prop}(k:p->W v st.os):oP (some (v,qz st p)) (K0 st W):=λhc=>⟨hc.tail,k hc.head⟩
theorem K0.imp{o:Option (α×St)}{T W:α->List O->Prop}(h:oP o (K0 st T))(k:∀v os,T v os->W v os):oP o (K0 st W):=h.mono λI I g hc=>let z:=g hc;⟨z.1,k _ _ z.2⟩
theorem sq{β:Type}{o:Option (α×St)}{f:α->St->Option (β×St)}{T:α->List O->Prop}{W:β->List O->Prop}(h:oP o (K0 st T))(k:∀a st1,oP (f a st1) (K0 st1 λv os=>T a st1.os->W v os)):oP (ob o f) (K0 st W):=
 LK h λa st1 h1=>(k a st1).mono λI I h2 hc=>let z:=h2 hc;let w:=h1 z.1;⟨w.1,z.2 w.2⟩
theorem SE.o{e:ME->Nat->St->Option (V×St)}(H:SE c n e)(m:ME)(fi:Nat)(st:St):oP (e m fi st) (K0 st (PE c n m fi st.os)):=oP.into λv C' h=>H m fi st v C' h
theorem ST.o{e:ME->Nat->St->Option (Bool×St)}(H:ST c n e)(m:ME)(fi:Nat)(st:St):oP (e m fi st) (K0 st (PT c n m fi st.os)):=oP.into λv C' h=>H m fi st v C' h
theorem SE.in{e:ME->Nat->St->Option (V×St)}(H:∀m fi st,oP (e m fi st) (K0 st (PE c n m fi st.os))):SE c n e:=λm fi st I I h=>(H m fi st).out h
theorem ST.in{e:ME->Nat->St->Option (Bool×St)}(H:∀m fi st,oP (e m fi st) (K0 st (PT c n m fi st.os))):ST c n e:=λm fi st I I h=>(H m fi st).out h
theorem j7{c:Cx}{n fi:Nat}{e:ME->Nat->St->Option (V×St)}(H:SE c n e):∀(ms:List ME) (st:St),oP (GG e fi ms st) (K0 st (PL c n ms fi st.os))
 |[],st=>nX λA env pos es s ρ Q E rm en ck R ad q=>by
  obtain rfl:=jq _ _ ck;exact aN (q ρ s [] (.refl R) rfl)
 |m::ms,st=>sq (H.o m fi st) λv st1=>sq (j7 H ms st1) λvs st2=>nX λk2 k1 A env pos es s ρ Q E rm en ck R ad q=>by
  obtain⟨x,xs,rfl,ck1,ck2⟩:=fK _ _ ck;refine aF (k1 A env x s ρ _ _ rm en ck1 R ad λρ1 s1 y r1 v1=>?_) (ez (gQ _ _ _ _ ck1));exact k2 A env pos xs s1 ρ1 _ _ rm (en.grow r1.grow) ck2 r1.rel (eE.trans ad r1.grow) λρ2 s2 ys r2 v2=>q ρ2 s2 (y::ys) (r1.trans r2) (.cons (r2.v r1.rel v1) v2)
end
theorem uJ{v:Value}(h:wV v):handedIn v:=by
 cases v<;>first | rfl | cases h
def xg(ads:List Addr)(v:V)(i:Nat):Prop:=∀(ρ:List Addr) (hp:Heap) (x:Value),eE ads ρ->dH ρ hp v x->∃a,nth ρ i=some a/\x= .ref a
section
variable{st:St} {r y z:Bool} {c:Cx} {n:Nat} {op:CmpOp} {s:Str} {i j:Int}
theorem CY{ads:List Addr}{v:V}:oP (lO ads v st) λi C'=>C'.os=st.os/\(All C'.cs->All st.cs/\xg ads v i):=by
 cases v with
 |obj i=>exact⟨rfl,λhc=>⟨hc,λρ hp x g ⟨a,e,e2⟩=>⟨a,(dP ρ i).trans e,e2⟩⟩⟩
 |val x=>
  obtain⟨os,ch,cs⟩:=st;cases ch with
  |nil=>exact N4
  |cons h l=>
   cases h with
   |ix i=>
    exact⟨rfl,λhc=>⟨hc.tail,λρ hp y g r=>by
     obtain⟨a,e,e2⟩:=aq.mp hc.head;exact⟨a,g _ _ e,r.1.trans e2.symm⟩⟩⟩
   |_=>exact N4
 |_=>exact N4
theorem vG(a b:Str):Bj a b=(a==b):=by
 unfold Bj;cases h:(a==b) with
 |true=>rw[am.mp h];simp
 |false=>
  rw[bK] at h ⊢;intro e;apply h;cases a;cases b
  simpa using e
theorem wT{x:Value}(h:wV x):plainIs x .none:=by
 cases x<;>first | rfl | cases h
theorem sj{y:Bool}{s:Str}:∀{vs:List V} {b:Bool} {l:List Str},nQ y s vs=some (b,l)->∀{ρ:List Addr} {hp:Heap} {xs:List Value},dy ρ hp vs xs->StrsAre xs l
 |[],_,_,h,_,_,_,r=>by cases h;cases r;exact .nil
 |v::vs,b,l,h,ρ,hp,xs,r=>by
  cases v with
  |none=>injection h
  |bool=>injection h
  |int=>injection h
  |tup=>injection h
  |obj=>injection h
  |val=>injection h
  |bi=>injection h
  |str z tt=>
  obtain⟨x,xs,rfl,⟨u,rfl⟩,r⟩:=r;have h:(match nQ y s vs with
   |some (b,l)=>match y||z with
    |true=>some (true,tt::l)
    |false=>some (b,tt::l)
   |none=>none)=some (b,l):=h
  cases e:nQ y s vs with
  |none=>rw[e] at h;cases h
  |some q=>
   have h2:q.2=l.tail/\l=tt::q.2:=by
    rw[e] at h;have h:(match y||z with | true=>some (true,tt::q.2) | false=>some (q.1,tt::q.2))=some (b,l):=h;revert h;cases y||z<;>intro h<;>cases h<;>exact⟨rfl,rfl⟩
   rw[h2.2];exact .cons _ _ (sj (b:=q.1) e r)
theorem pO(s:Str):∀l:List Str,gG s l=l.any (·==s)
 |[]=>rfl
 |t::r=>by
  show(match Bj s t with | true=>true | false=>gG s r)=_;rw[vG,List.any_cons,pO s r];cases h:(s==t) with
  |true=>rw[show(t==s)=true from by rw[am] at h ⊢;exact h.symm];rfl
  |false=>rw[show(t==s)=false from by rw[bK] at h ⊢;exact λe=>h e.symm];rfl
def Ml(sh:Shared)(x:Value)(l:List Str):Prop:=∃a z',x= .ref a/\IsTup sh.heap a (List.toArray z')/\StrsAre z' l
def QC(c:Cx)(n:Nat)(op:CmpOp)(a b:V)(os:List O)(r:Bool):Prop:=
 ∀(A:Around) (s:Shared) (ρ:List Addr) (x y:Value) (Q E:Value->Shared->Prop),ee A n->c.R ρ os s.heap->e9 c ρ->dH ρ s.heap a x->dH ρ s.heap b y->Q (.bool r) s->wpAny c.M A (compareOp op x y) Q E s
def KC{α:Type}(st:St)(T:α->Prop)(r:α)(C':St):Prop:=C'.os=st.os/\(All C'.cs->All st.cs/\T r)
theorem KC.get{α:Type}{C':St}{T:α->Prop}{r:α}(k:KC st T r C')(hc:All C'.cs):All st.cs/\C'.os=st.os/\T r:=⟨(k.2 hc).1,k.1,(k.2 hc).2⟩
theorem J3{T p:Bool->Prop}(k:∀r,p r->T r):oP (choose st p) (KC st T):=by
 obtain⟨os,ch,cs⟩:=st;cases ch with
 |nil=>exact N4
 |cons h l=>
  cases h with
  |b r=>exact⟨rfl,λhc=>⟨hc.tail,k r hc.head⟩⟩
  |_=>exact N4
theorem LP{α:Type}{T:α->Prop}{ads:List Addr}{u:V}{f:Nat->St->Option (α×St)}(k:∀i ch cs,oP (f i ⟨st.os,ch,cs⟩) (KC ⟨st.os,ch,cs⟩ λv=>xg ads u i->T v)):oP (ob (lO ads u st) f) (KC st T):=
 LK CY λi st1 h=>by
  obtain⟨os,ch,cs⟩:=st1;obtain⟨e,h2⟩:=h;have e:os=st.os:=e;subst e;exact(k i ch cs).mono λI I g=>⟨g.1,λhc=>let z:=g.2 hc;let w:=h2 z.1;⟨w.1,z.2 w.2⟩⟩
theorem vE{α:Type}{T:α->Prop}{r:α}(k:T r):oP (some (r,st)) (KC st T):=⟨rfl,λhc=>⟨hc,k⟩⟩
theorem LI{os:List O}{t:Str}(h:∀(A:Around) (sh:Shared) (u v:Tok) (Q E:Value->Shared->Prop),Q (.bool r) sh->wpAny c.M A (compareOp op (.str s u) (.str t v)) Q E sh):QC c n op (.str y s) (.str z t) os r:=λA sh ρ x w Q E rm R ad va vb q=>by
 obtain⟨u,rfl⟩:=va;obtain⟨v,rfl⟩:=vb;exact h A sh u v Q E q
theorem M6{os:List O}(h:∀(A:Around) (sh:Shared) (u v:Tok) (Q E:Value->Shared->Prop),Q (.bool r) sh->wpAny c.M A (compareOp op (.int i u) (.int j v)) Q E sh):QC c n op (.int y i) (.int z j) os r:=λA sh ρ x w Q E rm R ad va vb q=>by
 obtain⟨u,rfl⟩:=va;obtain⟨v,rfl⟩:=vb;exact h A sh u v Q E q
theorem M3{v:V}{f:Bool->Bool}{p:Value->Bool->Prop}(h:∀(A:Around) (sh:Shared) (x:Value) (Q E:Value->Shared->Prop),plainIs x .none=true->Q (.bool (f (x==Value.none))) sh->wpAny c.M A (compareOp op x .none) Q E sh)(hp:∀x r,p x r->f (x==Value.none)=r):
  oP (I4 f p v st) (KC st (QC c n op v .none st.os)):=by
 have k:∀r,(∀ρ hp x,dH ρ hp v x->plainIs x .none=true/\(x==Value.none)=r)->QC c n op v .none st.os (f r):=λr e A sh ρ x w Q E rm R ad va vb q=>by
  obtain rfl:=vb;have p:=e _ _ _ va;exact h A sh x Q E p.1 (by rw[p.2];exact q)
 cases v with
 |val x=>
  exact J3 λr k3 A sh ρ x' w Q E rm R ad va vb q=>by
   obtain rfl:=vb;obtain⟨rfl,ok⟩:=va;exact h A sh _ Q E (wT ok) (by rw[hp _ r k3];exact q)
 |bi _=>exact N4
 |none=>exact vE (k true λI I I r=>by cases r;exact⟨rfl,rfl⟩)
 |bool _=>exact vE (k false λI I I r=>by cases r;exact⟨rfl,rfl⟩)
 |int _ _=>exact vE (k false λI I I ⟨_,r⟩=>by cases r;exact⟨rfl,rfl⟩)
 |str _ _=>exact vE (k false λI I I ⟨_,r⟩=>by cases r;exact⟨rfl,rfl⟩)
 |tup _=>exact vE (k false λI I I ⟨_,_,r,_⟩=>by cases r;exact⟨rfl,rfl⟩)
 |obj _=>exact vE (k false λI I I ⟨_,_,r⟩=>by cases r;exact⟨rfl,rfl⟩)
theorem M5{vs:List V}{f:Bool->Bool}(h:∀(A:Around) (sh:Shared) (u:Tok) (x:Value) (l:List Str) (Q E:Value->Shared->Prop),Ml sh x l->Q (.bool (f (gG s l))) sh->wpAny c.M A (compareOp op (.str s u) x) Q E sh):
  oP (on (nQ y s vs) λp=>oi p.1 (choose st λc=>f (gG s p.2)=c) (some (f (gG s p.2),st))) (KC st (QC c n op (.str y s) (.tup vs) st.os)):=by
 refine pU λp e=>?_;have k:∀r,f (gG s p.2)=r->QC c n op (.str y s) (.tup vs) st.os r:=λr e2 A sh ρ x w Q E rm R ad va vb q=>by
  obtain⟨u,rfl⟩:=va;obtain⟨a,z',rfl,it,rs⟩:=vb;exact h A sh u _ p.2 Q E ⟨a,z',rfl,it,sj (b:=p.1) e rs⟩ (by rw[e2];exact q)
 exact yM (λI=>J3 k) λI=>vE (k _ rfl)
theorem JZ{p:Prop}[Decidable p]{b:Bool}(k:b=true↔p):decide p=b:=by
 cases b with
 |true=>exact av (k.mp rfl)
 |false=>exact ag λz=>Bool.noConfusion (k.mpr z)
theorem MD(k:∀r,lu op i j r\/tE op i j=some r->QC c n op (.int y i) (.int z j) st.os r):oP (oi (y||z) (choose st λc=>lu op i j c) (on (tE op i j) λc=>some (c,st))) (KC st (QC c n op (.int y i) (.int z j) st.os)):=
 yM (λI=>J3 λr e=>k r (.inl e)) λI=>pU λr e=>vE (k r (.inr e))
theorem KQ{t:Str}{p:Bool->Prop}{x:Bool}(k:∀r,p r\/x=r->QC c n op (.str y s) (.str z t) st.os r):oP (oi (y||z) (choose st p) (some (x,st))) (KC st (QC c n op (.str y s) (.str z t) st.os)):=
 yM (λI=>J3 λr e=>k r (.inl e)) λI=>vE (k _ (.inr rfl))
theorem cZ(h:lu op i j r\/tE op i j=some r):lu op i j r:=h.elim id λh=>by
 cases op<;>first | exact q0 (show none=some _ from h) | skip
 .exact(JZ (Z.eqB_iff _ _)).trans (ac h)
 .rw[<-ac h];show decide (¬_)=_;rw[decide_not,JZ (Z.eqB_iff _ _)]
 .exact(JZ (Z.ltB_iff _ _)).trans (ac h)
 .exact(JZ (Z.leB_iff _ _)).trans (ac h)
 .exact(JZ (Z.ltB_iff _ _)).trans (ac h)
 .exact(JZ (Z.leB_iff _ _)).trans (ac h)
theorem JW(k:∀r,lu op i j r->∀(A:Around) (sh:Shared) (u v:Tok) (Q E:Value->Shared->Prop),Q (.bool r) sh->wpAny c.M A (compareOp op (.int i u) (.int j v)) Q E sh):
  oP (oi (y||z) (choose st λc=>lu op i j c) (on (tE op i j) λc=>some (c,st))) (KC st (QC c n op (.int y i) (.int z j) st.os)):=MD λr h=>M6 (k r (cZ h))
theorem L9{b:V}:oP (HL c.P.ads b st) (KC st (QC c n .In (.str y s) b st.os)):=by
 refine LP λi ch cs=>pU λo e2=>?_;cases o with
 |list y0 l=>cases l with
  |nil=>
   exact vE λk3 A s' ρ x y Q E rm R ad va vb q=>by
    obtain⟨t,rfl⟩:=va;obtain⟨a,ha,rfl⟩:=k3 ρ s'.heap y ad vb;obtain⟨z',m,ho,z⟩:=R.at ha e2;cases z;exact SeqInW.in_listW (λI=>false) (λy hy=>by simp at hy) ⟨_,ho,rfl,m,rfl⟩ (by simpa using q)
  |cons _ _=>exact N4
 |_=>exact N4
theorem nV{a b:V}:oP (zN c.P.ads op a b st) (KC st (QC c n op a b st.os)):=by
 cases op with
 |Is=>cases b with
  |none=>exact M3 (f:=λr=>r) (λA sh x Q E p q=>wpAny_is_plain p q) λx r e=>e
  |_=>exact N4
 |IsNot=>cases b with
  |none=>
   exact M3 (f:=λr=> !r) (λA sh x Q E p q=>wpAny_isNot_plain p q) λx r e=>by
    have e:decide (x≠Value.none)=r:=e;rw[<-e]
    by_cases z:x=Value.none
    .rw[z];rfl
    .rw[bK.mpr z,av z];rfl
  |_=>exact N4
 |In=>cases a with
  |str y s=>
   cases b with
   |tup vs=>
    exact M5 (f:=λr=>r) λA sh u x l Q E ⟨a,z',e,it,sa⟩ q=>by
     subst e;exact SeqAt.in_tupleAt (isStrOf s) it (λy hy=>(eq_isStrOf s u sa y (by simpa using hy)).at _ _) (by rw[<-Array.any_toList,show z'.toArray.toList=z' from rfl,any_isStrOf s sa,<-pO];exact q)
   |str z t=>exact J3 λr k3=>LI λA sh u v Q E q=>SB.contains (by rw[k3];exact q)
   |_=>exact L9
  |_=>exact N4
 |NotIn=>cases a with
  |str y s=>cases b with
   |tup vs=>
    exact M5 (f:=λr=> !r) λA sh u x l Q E ⟨a,z',e,it,sa⟩ q=>by
     subst e;exact SeqAt.notIn_tupleAt (isStrOf s) it (λy hy=>(eq_isStrOf s u sa y (by simpa using hy)).at _ _) (by rw[<-Array.any_toList,show z'.toArray.toList=z' from rfl,any_isStrOf s sa,<-pO];exact q)
   |str z t=>exact J3 λr k3=>LI λA sh u v Q E q=>SB.notContains (by rw[k3];exact q)
   |_=>exact N4
  |_=>exact N4
 |Eq=>cases a with
  |int y i=>cases b with
   |int z j=>exact JW λr e A sh u v Q E q=>eq_int (by rw[show(i==j)=r from e];exact q)
   |_=>exact N4
  |str y s=>cases b with
   |str z t=>exact KQ λr h=>LI λA sh u v Q E q=>eq_str (by rw[show(s==t)=r from h.elim id λh=>(vG s t).symm.trans h];exact q)
   |_=>exact N4
  |tup vs=>cases b with
   |str z t=>
    exact vE λA s' ρ x y Q E rm R ad va vb q=>by
     obtain⟨a,z',rfl,it,rs⟩:=va;obtain⟨u,rfl⟩:=vb;exact SeqAt.RcAt.tuple_str _ _ it (by have:=rm.units;omega) c.prog c.w E Q q
   |_=>exact N4
  |none=>cases b with
   |str z t=>
    exact vE λA s' ρ x y Q E rm R ad va vb q=>by
     obtain rfl:=va;obtain⟨u,rfl⟩:=vb;exact PySem.EqNone.eq_none_str q
   |_=>exact N4
  |_=>exact N4
 |NotEq=>cases a with
  |int y i=>cases b with
   |int z j=>
    exact JW λr e A sh u v Q E q=>ne_int (by
     have e:decide (i≠j)=r:=e;rw[show(i != j)=r from by rw[<-e];by_cases z:i=j<;>simp [z]];exact q)
   |_=>exact N4
  |str y s=>cases b with
   |str z t=>
    exact KQ λr h=>LI λA sh u v Q E q=>ne_str (by
     rw[show(s != t)=r from h.elim (λh=>by rw[<-h];by_cases z:s=t<;>simp [z]) λh=>by rw[<-h,vG];rfl];exact q)
   |_=>exact N4
  |tup _=>cases b<;>exact N4
  |none=>cases b<;>exact N4
  |_=>exact N4
 |Lt=>cases a with
  |int y i=>cases b with
   |int z j=>exact JW λr e A sh u v Q E q=>lt_int (by rw[show decide (i<j)=r from e];exact q)
   |_=>exact N4
  |str _ _=>cases b<;>exact N4
  |tup _=>cases b<;>exact N4
  |none=>cases b<;>exact N4
  |_=>exact N4
 |LtE=>cases a with
  |int y i=>cases b with
   |int z j=>exact JW λr e A sh u v Q E q=>le_int (by rw[show decide (i<=j)=r from e];exact q)
   |_=>exact N4
  |str _ _=>cases b<;>exact N4
  |tup _=>cases b<;>exact N4
  |none=>cases b<;>exact N4
  |_=>exact N4
 |Gt=>cases a with
  |int y i=>cases b with
   |int z j=>exact JW λr e A sh u v Q E q=>gt_int (by rw[show decide (i > j)=r from e];exact q)
   |_=>exact N4
  |str _ _=>cases b<;>exact N4
  |tup _=>cases b<;>exact N4
  |none=>cases b<;>exact N4
  |_=>exact N4
 |GtE=>cases a with
  |int y i=>cases b with
   |int z j=>exact JW λr e A sh u v Q E q=>ge_int (by rw[show decide (i>=j)=r from e];exact q)
   |_=>exact N4
  |str _ _=>cases b<;>exact N4
  |tup _=>cases b<;>exact N4
  |none=>cases b<;>exact N4
  |_=>exact N4
theorem us{a b:V}{C':St}(h:zN c.P.ads op a b st=some (r,C'))(hc:All C'.cs):All st.cs/\C'.os=st.os/\QC c n op a b st.os r:=(nV.out h).get hc
end
nonrec theorem Ga{prog:Program}{w:World}{A:Around}{E:Value->Shared->Prop}{s:Shared}{t b:Addr}{Q:Value->Shared->Prop}{{vs ws:List Value}}(ht:IsTup s.heap t vs.toArray)(hb:IsTup s.heap b ws.toArray)(hsz:vs.length+ws.length<=sizeLine)(h:∀a h',IsTup h' a (vs++ws).toArray->(∀b o,s.heap.get? b=some o->h'.get? b=some o)->s.heap.objs.size<=h'.objs.size->Q (.ref a) {s with heap:=h'}):
  wpAny (model prog w) A (binaryOp .Add (.ref t) (.ref b)) Q E s:=by
 have ht':=ht;have hb':=hb;obtain⟨⟨cls,dd,data,sl⟩,ho,hc,n,hd⟩:=ht;obtain⟨⟨cls2,dd2,data2,sl2⟩,ho2,hc2,n2,LN⟩:=hb;simp only at hc hd hc2 LN;subst hc hd hc2 LN
 by_cases hv:vs=[]
 .subst hv
  exact concat_meets ⟨_,ho,rfl⟩ ⟨_,ho2,rfl⟩ noFill_tuple_add seq_tuple_add PySem.F.slot_tuple_add PySem.F.entry_tuple_add (PySem.F.args_tuple_add_2 _ _)
   (tuple_addW0 t b [].toArray ws.toArray n n2 dd dd2 sl sl2 (by simp)) ⟨ho,ho2,h b s.heap hb' (λI I e=>e) (ao _)⟩
 .by_cases hw:ws=[]
  .subst hw
   exact concat_meets ⟨_,ho,rfl⟩ ⟨_,ho2,rfl⟩ noFill_tuple_add seq_tuple_add PySem.F.slot_tuple_add PySem.F.entry_tuple_add (PySem.F.args_tuple_add_2 _ _)
    (tuple_addW1 t b vs.toArray [].toArray n n2 dd dd2 sl sl2 (by simpa using hv) (by simp)) ⟨ho,ho2,h t s.heap (by rw[aQ];exact ht') (λI I e=>e) (ao _)⟩
  .refine concat_meets ⟨_,ho,rfl⟩ ⟨_,ho2,rfl⟩ noFill_tuple_add seq_tuple_add PySem.F.slot_tuple_add PySem.F.entry_tuple_add (PySem.F.args_tuple_add_2 _ _)
    (tuple_addW2 t b vs.toArray ws.toArray n n2 dd dd2 sl sl2 (by simpa using hv) (by simpa using hw) (by rw[aI,aI];exact hsz)) ⟨ho,ho2,?_⟩
   rw[show vs.toArray++ws.toArray=(vs++ws).toArray from by simp];exact h _ _ ⟨_,aB _ rfl,rfl,0,rfl⟩ (λb o e=>ae _ e) (by rw[bB];exact au _)
theorem qw{i':Expr}(hn:kJ i')(o i:Value):subscripted i' false o i=operate [o,i] (getItem o i):=by
 cases i'<;>first | rfl | exact absurd hn b8
section
variable{st:St} {y:Bool} {n:Nat} {α β:Type} {v a b:V} {c:Cx} {op:Operator} {T:α->Prop} {K:β->St->Prop}
theorem oV:(ig st y n).os=st.os:=by
 unfold ig;cases y with
 |true=>rfl
 |false=>cases Nat.blt n 4096<;>rfl
theorem i7(h:All (ig st y n).cs):All st.cs/\n<2^20:=by
 unfold ig at h;cases y with
 |true=>exact⟨h.tail,h.head⟩
 |false=>
  cases e:Nat.blt n 4096 with
  |true=>
   rw[e] at h;exact⟨h,aH (aV e) ()⟩
  |false=>rw[e] at h;exact h.head.elim
theorem fA(s:Shared):s.heap.get? s.heap.objs.size=none:=by
 cases e:s.heap.get? s.heap.objs.size with
 |none=>rfl
 |some o=>exact absurd (ay e) (bD _)
theorem LL{v:α}{p:Prop}(k:p->T v):oP (some (v,qz st p)) (KC st T):=⟨rfl,λhc=>⟨hc.tail,k hc.head⟩⟩
theorem Ky{v:α}{m:Nat}(k:m<2^20->T v):oP (some (v,ig st y m)) (KC st T):=⟨oV,λhc=>let z:=i7 hc;⟨z.1,k z.2⟩⟩
theorem KC.imp{o:Option (α×St)}{W:α->List O->Prop}(h:oP o (KC st T))(k:∀v,T v->W v st.os):oP o (K0 st W):=h.mono λI I g hc=>let z:=g.2 hc;⟨z.1,by rw[g.1];exact k _ z.2⟩
theorem Ji{o:Option (α×St)}{f:α->St->Option (β×St)}{W:β->List O->Prop}(h:oP o (KC st T))(k:∀a ch cs,oP (f a ⟨st.os,ch,cs⟩) (K0 ⟨st.os,ch,cs⟩ λv os=>T a->W v os)):oP (ob o f) (K0 st W):=
 LK h λa st1 h=>by
  obtain⟨os,ch,cs⟩:=st1;obtain⟨e,h2⟩:=h;have e:os=st.os:=e;subst e;exact(k a ch cs).mono λI I g hc=>let z:=g hc;let w:=h2 z.1;⟨w.1,z.2 w.2⟩
theorem su{ads:List Addr}{u:V}:oP (lO ads u st) (KC st (xg ads u)):=CY
theorem Fa{o:Option O}{f:Bool->List V->Option (β×St)}(k:∀y xs,o=some (.list y xs)->oP (f y xs) K):oP (JU o f) K:=pU λo e=>match o,e with
 | .list y xs,e=>k y xs e
 | .frame _,_=>trivial
 | .stk _ _,_=>trivial
 | .inst _ _,_=>trivial
 | .dict _,_=>trivial
 | .any,_=>trivial
theorem E7{o:Option O}{f:Bool->List V->Option (β×St)}{g:List V->List Value->Option (β×St)}(k:∀y xs,o=some (.list y xs)->oP (f y xs) K)(k2:∀t r,o=some (.stk t r)->oP (g t r) K):oP (J1 o f g) K:=pU λo e=>match o,e with
 | .list y xs,e=>k y xs e
 | .stk t r,e=>k2 t r e
 | .frame _,_=>trivial
 | .inst _ _,_=>trivial
 | .dict _,_=>trivial
 | .any,_=>trivial
theorem I5{o:Option O}{f:Addr->List (Nm×V)->Option (β×St)}(k:∀C fs,o=some (.inst C fs)->oP (f C fs) K):oP (Lp o f) K:=pU λo e=>match o,e with
 | .inst C fs,e=>k C fs e
 | .list _ _,_=>trivial
 | .frame _,_=>trivial
 | .stk _ _,_=>trivial
 | .dict _,_=>trivial
 | .any,_=>trivial
theorem FQ{f:Bool->Option (β×St)}(k:∀b,v= .bool b->oP (f b) K):oP (JI v f) K:=by
 cases v with
 |bool b=>exact k b rfl
 |_=>exact N4
theorem K6{f:List V->Option (β×St)}(k:∀vs,v= .tup vs->oP (f vs) K):oP (LV v f) K:=by
 cases v with
 |tup b=>exact k b rfl
 |_=>exact N4
theorem Js{l:List V}{f:V->Option (β×St)}(k:∀x,l=[x]->oP (f x) K):oP (LG l f) K:=match l,k with
 |[],_=>trivial
 |[x],k=>k x rfl
 |_::_::_,_=>trivial
theorem yK{l:List V}{f:V->List V->Option (β×St)}(k:∀x xs,l=x::xs->oP (f x xs) K):oP (H0 l f) K:=match l,k with
 |[],_=>trivial
 |x::xs,k=>k x xs rfl
theorem LQ{γ:Type}{o:Option γ}{f:γ->Option (β×St)}{d:Option (β×St)}(k:∀a,o=some a->oP (f a) K)(k2:o=none->oP d K):oP (od o f d) K:=match o,k,k2 with
 |some a,k,_=>k a rfl
 |none,_,k=>k rfl
theorem Mx{f:V->List Ch->Option (β×St)}(k:∀x r,oP (f x r) K):oP (J9 st f) K:=by
 obtain⟨os,ch,cs⟩:=st;cases ch with
 |nil=>exact N4
 |cons h l=>
  cases h with
  |v x=>exact k x l
  |_=>exact N4
theorem rQ{k:Int}(h:AG y k=some n):k=n:=by
 cases y with
 |true=>cases h
 |false=>cases k with
  |ofNat m=>cases h;rfl
  |negSucc _=>cases h
def QB(c:Cx)(n:Nat)(op:Operator)(a b:V)(os:List O)(v:V)(H':List O):Prop:=
 ∀(A:Around) (s:Shared) (ρ:List Addr) (x y:Value) (Q E:Value->Shared->Prop),ee A n->c.R ρ os s.heap->dH ρ s.heap a x->dH ρ s.heap b y->
  (∀ρ' s' z,c.Rs ρ os s ρ' H' s'->dH ρ' s'.heap v z->Q z s')->wpAny c.M A (binaryOp op x y) Q E s
theorem J6{z w:Bool}{i j k:Int}{os:List O}(h:∀(A:Around) (s:Shared) (u v:Tok) (Q E:Value->Shared->Prop),Q (.int k s.toks) {s with toks:=s.toks+1}->wpAny c.M A (binaryOp op (.int i u) (.int j v)) Q E s):QB c n op (.int y i) (.int z j) os (.int w k) os:=
 λA s ρ x x2 Q E rm R va vb q=>by
  obtain⟨t,rfl⟩:=va;obtain⟨u,rfl⟩:=vb;exact h A s t u Q E (q _ _ _ (eR.more R (λI I e=>e) rfl rfl (ao _)) ⟨_,rfl⟩)
theorem tm:oP (E9 op a b st) (K0 st (QB c n op a b st.os)):=by
 cases a with
 |int y i=>cases b with
  |int z j=>cases op with
   |Add=>exact nX (J6 λA s u v Q E q=>add_int q)
   |Sub=>exact nX (J6 λA s u v Q E q=>sub_int q)
   |Mult=>exact EF λk=>J6 λA s u v Q E q=>PyProof.Rows.mul_int q k
   |Mod=>exact EF λk=>J6 λA s u v Q E q=>PyProof.Rows.mod_int' k q
   |FloorDiv=>exact EF λk=>J6 λA s u v Q E q=>PyProof.Rows.floordiv_int k.1 q (.inl k.2)
   |_=>exact N4
  |_=>exact N4
 |obj i=>cases b with
  |obj j=>cases op with
   |Add=>
    refine Fa λy1 xs e1=>Fa λy2 ys e2 hc=>⟨hc.tail,λA s ρ x y Q E rm R va vb q=>?_⟩
    obtain⟨a,ha,rfl⟩:=va;obtain⟨b,hb,rfl⟩:=vb;rw[<-dP] at ha hb;obtain⟨zs,m,ho,z⟩:=R.at ha e1;obtain⟨ws,m2,ho2,z2⟩:=R.at hb e2;have kz:=hc.head;refine PySem.P.add_list ho ho2 ?_ (by rw[aI,aI,z.length,z2.length];exact kz);rw[show zs.toArray++ws.toArray=(zs++ws).toArray from by simp];have k:∀b o,s.heap.get? b=some o->(s.heap.push (fk (zs++ws) 0)).get? b=some o:=λb o e=>ae _ e;exact q _ _ _ (eR.pushC (o:=.list true (xs++ys)) R k (λx m=>by cases aj.mp m;exact fA s) ⟨zs++ws,0,aB _ rfl,(z.up (.app _ _) (.of_keeps k)).app (z2.up (.app _ _) (.of_keeps k))⟩ rfl rfl (by rw[bB];exact au _))
     ⟨_,by rw[<-dP,<-R.len];exact gr _ _,rfl⟩
   |_=>exact N4
  |_=>exact N4
 |str y s=>cases b with
  |str z t=>cases op with
   |Add=>
    refine EF λk A s ρ x y Q E rm R va vb q=>?_;obtain⟨t,rfl⟩:=va;obtain⟨u,rfl⟩:=vb;exact PyProof.Rows.add_str (λt' tk=>q _ _ _ (eR.more R (λI I e=>e) rfl rfl (ao _)) ⟨_,rfl⟩) k
   |_=>exact N4
  |_=>exact N4
 |tup vs=>cases b with
  |tup ws=>cases op with
   |Add=>
    refine EF λk A s ρ x y Q E rm R va vb q=>?_;obtain⟨a,z',rfl,ta,ra⟩:=va;obtain⟨b,ita,rfl,tb,rb⟩:=vb;refine Ga ta tb (by rw[ra.length,rb.length];exact k) λd h' td k z=>?_;have rs:c.Rs ρ st.os s ρ st.os {s with heap:=h'}:=eR.more R k rfl rfl z;exact q _ _ _ rs ⟨d,_,rfl,td,(rs.vs R ra).app (rs.vs R rb)⟩
   |_=>exact N4
  |_=>exact N4
 |_=>exact N4
theorem ni{C':St}(h:E9 op a b st=some (v,C'))(hc:All C'.cs):All st.cs/\QB c n op a b st.os v C'.os:=tm.out h hc
theorem dy.len_lt{ρ:List Addr}{h:Heap}{vs:List V}{xs:List Value}(r:dy ρ h vs xs):xs.toArray.size=vs.length:=by rw[aI,r.length]
def QL(c:Cx)(n:Nat)(a:V)(os:List O)(v:V):Prop:=
 ∀(A:Around) (s:Shared) (ρ:List Addr) (x:Value) (Q E:Value->Shared->Prop),ee A n->c.R ρ os s.heap->e9 c ρ->dH ρ s.heap a x->
  (∀s' z,c.Rs ρ os s ρ os s'->dH ρ s'.heap v z->Q z s')->wpAny c.M A (call (.builtin "len") [x]) Q E s
theorem zA:oP (H3 c.P.ads a st) (KC st (QL c n a st.os)):=by
 have go:∀{y:Bool} {m:Nat} {a:V} {os:List O},m<2^62->(∀(ρ:List Addr) (s:Shared) (x:Value),c.R ρ os s.heap->e9 c ρ->dH ρ s.heap a x->∃d z',x= .ref d/\s.heap.IsList d z'/\z'.size=m)->QL c n a os (.int y m):=by
  intro y m a os lt k A s ρ x Q E rm R ad va q;obtain⟨d,z',rfl,il,z⟩:=k ρ s x R ad va;exact PyProof.Rows.len_list il (by rw[z];omega) (q _ _ (eR.more R (λI I e=>e) rfl rfl (ao _)) ⟨s.toks+1,by rw[z]⟩)
 have lst:∀{a:V},oP (E6 c.P.ads a st) (KC st (QL c n a st.os)):=by
  intro a;refine LP λi ch cs=>E7 (λy xs e2=>Ky λlt M=>go (by omega) λρ s x R ad va=>?_) λtop u' e2=>LL λlt M=>go lt λρ s x R ad va=>?_
  .obtain⟨d,hd,rfl⟩:=M ρ s.heap x ad va
   obtain⟨z',m,ho,z⟩:=R.at hd e2;exact⟨d,z'.toArray,rfl,⟨_,ho,rfl,m,rfl⟩,z.len_lt⟩
  .obtain⟨d,hd,rfl⟩:=M ρ s.heap x ad va
   obtain⟨z',m,ho,z⟩:=R.at hd e2;exact⟨d,(u'++z').toArray,rfl,⟨_,ho,rfl,m,rfl⟩,by rw[aI,ai,z.length,bL]⟩
 cases a with
 |str y w=>
  refine Ky λlt A s ρ x Q E rm R ad va q=>?_;obtain⟨t,rfl⟩:=va;exact P.len_str (by omega) (q _ _ (eR.more R (λI I e=>e) rfl rfl (ao _)) ⟨_,rfl⟩)
 |tup vs=>
  refine Ky λlt A s ρ x Q E rm R ad va q=>?_;obtain⟨d,z',rfl,ta,ra⟩:=va;exact len_tuple ta (by rw[ra.len_lt];omega) (q _ _ (eR.more R (λI I e=>e) rfl rfl (ao _)) ⟨s.toks+1,by rw[ra.len_lt]⟩)
 |_=>exact lst
theorem lK{m:Nat}(h:n<m):seqIndex? (n:Int) m=some n:=by
 unfold seqIndex?;have a:¬(n:Int)<0:=Int.not_lt.mpr (Int.natCast_nonneg n);simp only[a,if_false];rw[if_pos (by rw[av (Int.natCast_nonneg n),av (bX.mpr h)];rfl)];rfl
def QI(c:Cx)(n:Nat)(a b:V)(os:List O)(v:V):Prop:=
 ∀(A:Around) (s:Shared) (ρ:List Addr) (x y:Value) (o' i':Expr) (Q E:Value->Shared->Prop),kJ i'=true->ee A n->c.R ρ os s.heap->e9 c ρ->dH ρ s.heap a x->dH ρ s.heap b y->
  (∀s' z,c.Rs ρ os s ρ os s'->dH ρ s'.heap v z->Q z s')->wpAny c.M A (subscriptTail o' i' x y) Q E s
theorem qG:oP (yZ c.P.ads a b st) (KC st (QI c n a b st.os)):=by
 cases b with
 |int yy k=>
  have go:∀{v a:V} {os:List O},0<=k->k<2^62->(∀(ρ:List Addr) (s:Shared) (x:Value),c.R ρ os s.heap->e9 c ρ->dH ρ s.heap a x->∃d z' z,x= .ref d/\s.heap.IsList d z'/\z'[k.toNat]?=some z/\dH ρ s.heap v z)->QI c n a (.int yy k) os v:=by
   intro v a os k0 k1 h A s ρ x y o' i' Q E ns rm R ad va vb q;obtain⟨d,z',z,rfl,il,hz,vz⟩:=h ρ s x R ad va;obtain⟨u,rfl⟩:=vb;exact tail_any il.typeIs slot_list_getitem.lookup (wpAny_getItem_list il k0 (by omega) hz (q _ _ (.refl R) vz)) (qw ns _ _)
  have lst:∀{a:V},oP (Ai c.P.ads a yy k st) (KC st (QI c n a (.int yy k) st.os)):=by
   intro a;have at_:∀{i:Nat} {os:List O} {y:Bool} {xs:List V} {v:V},xg c.P.ads a i->nth os i=some (.list y xs)->nth xs k.toNat=some v->∀(ρ:List Addr) (s:Shared) (x:Value),c.R ρ os s.heap->e9 c ρ->dH ρ s.heap a x->∃d z' z,x= .ref d/\s.heap.IsList d z'/\z'[k.toNat]?=some z/\dH ρ s.heap v z:=by
    intro i os y xs v M e2 e3 ρ s x R ad va;obtain⟨d,hd,rfl⟩:=M ρ s.heap x ad va;obtain⟨z',w,ho,z⟩:=R.at hd e2;obtain⟨zz,hz,vz⟩:=z.nth e3;exact⟨d,z'.toArray,zz,rfl,⟨_,ho,rfl,w,rfl⟩,by simpa using hz,vz⟩
   refine LP λi ch cs=>E7 (λy xs e2=>LQ (λm em=>pU λv e3=>Ky λlt M=>?_) (λI=>Mx λx r=>⟨rfl,λhc=>⟨hc.tail,λM=>go hc.head.1 hc.head.2.1 (at_ M e2 hc.head.2.2)⟩⟩)) λtop u' e2=>yK λv tl et=>LL λkk M=>?_
   .have ek:=rQ em
    exact go (by omega) (by omega) (at_ M e2 (by rw[ek];exact e3))
   .subst et
    refine go (by omega) kk.2 λρ s x R ad va=>?_;obtain⟨d,hd,rfl⟩:=M ρ s.heap x ad va;obtain⟨z',w,ho,z⟩:=R.at hd e2;rw[bu] at z;have nz:nth (tl.reverse++[v]) tl.reverse.length=some v:=gr _ _;obtain⟨zz,hz,vz⟩:=z.nth nz;rw[bL] at hz;exact⟨d,(u'++z').toArray,zz,rfl,⟨_,ho,rfl,w,rfl⟩,by rw[kk.1,Int.toNat_natCast,List.getElem?_toArray,List.getElem?_append_right (aA _ _),Nat.add_sub_cancel_left];exact hz,vz⟩
  cases a with
  |tup vs=>
   refine pU λm em=>pU λv e=>Ky λlt A s ρ x y o' i' Q E ns rm R ad va vb q=>?_;have ek:=rQ em;subst ek;obtain⟨d,z',rfl,ta,ra⟩:=va;obtain⟨u,rfl⟩:=vb;obtain⟨z,hz,vz⟩:=ra.nth e;exact item_tupleT ta (by omega) (by omega) (lK (by rw[ra.length];exact fO e)) hz (q _ _ (.refl R) vz) (qw ns _ _)
  |str y0 str=>
   refine LL λkk A s ρ x y o' i' Q E ns rm R ad va vb q=>?_;obtain⟨t,rfl⟩:=va;obtain⟨u,rfl⟩:=vb;obtain⟨k1,k2,k3⟩:=kk;obtain⟨m,rfl⟩:=Int.eq_ofNat_of_zero_le k1;have lt:m<str.length:=bX.mp k2;refine tail_any (typeIs_str _ _ _) PySem.F.slot_str_getitem.lookup (P.getItem_str (c:=str.cps.getD m 0) (Bool.or_eq_false_iff.mpr ⟨ag (by omega),ag (by omega)⟩) ?_ (q _ _ (eR.more R (λI I e=>e) rfl rfl (ao _)) ⟨_,rfl⟩)) (qw ns _ _);rw[lK lt];show str.cps[m]?=some (str.cps.getD m 0);rw[Array.getD_eq_getD_getElem?,Array.getElem?_eq_getElem lt];rfl
  |_=>exact lst
 |_=>exact N4
theorem nT{C':St}(h:yZ c.P.ads a b st=some (v,C'))(hc:All C'.cs):All st.cs/\C'.os=st.os/\QI c n a b st.os v:=(qG.out h).get hc
end
section
set_option tactic.hygienic true
def rn(o:Option Int)(x:Value):Prop:=match o with
 |none=>x= .none
 |some i=>∃t,x= .int i t
section
variable{v:V} {o o':O} {y:Bool} {c:Cx} {n i:Nat} {st:St} {prog:Program} {w:World} {A:Around} {E Q:Value->Shared->Prop} {s:Shared} {D:Addr} {z' pre:List Value} {ρ:List Addr} {h:Heap} {cn:List V} {os:List O}
theorem yl{v:Option V}{o:Option Int}(h:pS v=some (o,y)):(v=none/\o=none)\/∃i,v=some (.int y i)/\o=some i:=by
 cases v with
 |none=>injection h;exact .inl ⟨rfl,rfl⟩
 |some v=>
  cases v with
  |int z i=>injection h;exact .inr ⟨_,rfl,rfl⟩
  |_=>injection h
def QS(c:Cx)(n:Nat)(a:V)(lo hi:Option V)(os:List O)(v:V):Prop:=
  ∃lo' hi' y1 y2,pS lo=some (lo',y1)/\pS hi=some (hi',y2)/\
  ∀(A:Around) (s:Shared) (ρ:List Addr) (x l u:Value) (o':Expr) (p:Pos) (le he:Option Expr) (Q E:Value->Shared->Prop),ee A n->c.R ρ os s.heap->dH ρ s.heap a x->rn lo' l->rn hi' u->
   (∀s' z,c.Rs ρ os s ρ os s'->dH ρ s'.heap v z->Q z s')->
   wpAny c.M A (subscriptTail o' (.Slice le he none p) x (.ref s.heap.objs.size)) Q E {s with heap:=s.heap.push {cls:=.type "slice",data:=.fields #[l,u,.none]}}
theorem xa{o:Option Int}{x:Value}(h:rn o x):∃z:Option (Int×Tok),z.map (·.1)=o/\x=(match z with | none=>.none | some (i,t)=>.int i t):=by
 cases o with
 |none=>exact⟨none,rfl,h⟩
 |some i=>obtain⟨t,e⟩:=h;exact⟨some (i,t),rfl,e⟩
theorem uQ{a:V}{lo hi:Option V}:oP (AX a lo hi st) (KC st (QS c n a lo hi st.os)):=by
 cases a with
 |str y str=>
  refine pU λp1 e1=>pU λp2 e2=>LL λhz=>⟨p1.1,p2.1,p1.2,p2.2,e1,e2,λA s ρ x l u o' p le he Q E rm R va pl pu q=>?_⟩
  obtain⟨t,rfl⟩:=va;obtain⟨zl,el,rfl⟩:=xa pl;obtain⟨zu,eu,rfl⟩:=xa pu;rw[<-el,<-eu] at q;refine tail_any (typeIs_str _ _ _) PySem.F.slot_str_getitem.lookup ?_ (ops:=[.str str t,.ref s.heap.objs.size]) rfl;exact wpAny_getItem_str_slice (l:=zl) (u:=zu) (st:=none) ⟨_,aB _ rfl,rfl,rfl⟩ rfl
   (post_val_or_str ⟨ax (Txt.slice_le str _ _) hz,λt' k=>q _ _ (eR.more R (λb o e=>ae _ e) rfl rfl (by rw[bB];exact au _)) ⟨_,rfl⟩⟩)
 |_=>exact N4
theorem dv:2^20<=sizeLine:=by rw[sizeLine_eq];decide
theorem ud:∀{x:V} {xs:List V} {l:V} {r:List V},n7 x xs=(l,r)->x::xs=r++[l]
 |x,[],l,r,h=>by cases h;rfl
 |x,y::ys,l,r,h=>by
  have h:(match(generalizing:=false) n7 y ys with | (l,i)=>(l,x::i))=(l,r):=h;cases e:n7 y ys with
  |mk l' i=>
   rw[e] at h;cases h;rw[ud e];rfl
theorem CB{name:Str}{id:String}{pl:Sem Bool}{Q:Value×List Value->Shared->Prop}
  (ho:s.heap.get? D=some (fk z' n)) (slot:Slot "list" name id) (hty:typeOf (.builtin id)=pure (.type "method_descriptor")) (h:Q (.builtin id,[.ref D]) s):
  wpAny (model prog w) A (getMethod (.ref D) name pl) Q E s:=
 getMethod_builtin ⟨_,ho,rfl⟩ PySem.F.plainAttrs_list slot hty (λa e=>by cases e;exact⟨_,ho,rfl⟩) h
def Hm(k:Nat):String:=match k with
 |0=>"list.append"
 |1=>"list.pop"
 |2=>"list.extend"
 |_=>"list.reverse"
theorem qY{x:Value}
  (ho:s.heap.get? D=some (fk z' n)) (hsz:z'.length<=sizeLine)
  (h:∀h' n',Heap.SameBut D s.heap h'->h'.get? D=some (fk (z'++[x]) n')->Q .none {s with heap:=h'}):wpAny (model prog w) A (call (.builtin "list.append") [.ref D,x]) Q E s:=
 append_at ho (λh' sb e=>h h' (n+1) sb (by rw[e];simp [fk])) (by rw[aI];exact hsz)
theorem Dw{p:List Value}{y:Value}
  (ho:s.heap.get? D=some (fk (p++[y]) n)) (hsz:(p++[y]).length<=sizeLine)
  (h:∀h' n',Heap.SameBut D s.heap h'->h'.get? D=some (fk p n')->Q y {s with heap:=h'}):wpAny (model prog w) A (call (.builtin "list.pop") [.ref D]) Q E s:=by
 have hz':(p++[y]).toArray.size<=sizeLine:=by rw[aI];exact hsz
 have hk:(p++[y]).toArray.size - 1=p.length:=by rw[aI,ai];rfl
 have hy:(p++[y]).toArray[(p++[y]).toArray.size - 1]?=some y:=by rw[hk];simp
 refine call_meets PySem.F.slot_list_pop ⟨_,ho,rfl⟩ PySem.F.entry_list_pop (PySem.F.args_list_pop_1 _) (PySem.MeetsSeq.list_pop_last D _ n y hy hz') ⟨ho,h _ (n+1) (bU ..) ?_⟩;have q:=PySem.IsL.update ho (λxs=>xs.eraseIdxIfInBounds ((p++[y]).toArray.size - 1));rw[hk,W.kl_erase,aQ,if_neg (by simp)] at q;rw[hk];exact q
theorem Co{p:List Value}{y:Value}{u:Tok}
  (ho:s.heap.get? D=some (fk (y::p) n)) (hsz:(y::p).length<=sizeLine)
  (h:∀h' n',Heap.SameBut D s.heap h'->h'.get? D=some (fk p n')->Q y {s with heap:=h'}):wpAny (model prog w) A (call (.builtin "list.pop") [.ref D,.int 0 u]) Q E s:=by
 have hz':(y::p).toArray.size<=sizeLine:=by rw[aI];exact hsz
 refine call_meets PySem.F.slot_list_pop ⟨_,ho,rfl⟩ PySem.F.entry_list_pop (PySem.F.args_list_pop_2 _ _) (PySem.MeetsSeq.list_pop_at D _ n 0 u 0 y () (lK (by simp)) (by simp) hz') ⟨ho,h _ (n+1) (bU ..) ?_⟩;have q:=PySem.IsL.update ho (λxs=>xs.eraseIdxIfInBounds 0);rw[show((y::p).toArray).eraseIdxIfInBounds 0=p.toArray from W.kl_erase [] p y,if_neg (by simp)] at q;exact q
theorem xy{b:Addr}{its2:List Value}{n2:Nat}
  (ho:s.heap.get? D=some (fk z' n)) (hb:s.heap.get? b=some (fk its2 n2)) (hsz:z'.length+its2.length<=sizeLine)
  (h:∀h' n',Heap.SameBut D s.heap h'->h'.get? D=some (fk (z'++its2) n')->Q .none {s with heap:=h'}):wpAny (model prog w) A (call (.builtin "list.extend") [.ref D,.ref b]) Q E s:=by
 have hsz':z'.toArray.size+its2.toArray.size<=sizeLine:=by rw[aI,aI];exact hsz
 refine call_meets PySem.F.slot_list_extend ⟨_,ho,rfl⟩ PySem.F.entry_list_extend (PySem.F.args_list_extend_2 _ _) (AutoSeq1.list_extend_list_list_0 D z'.toArray n b its2.toArray n2 (extend_door hsz') (ax (aA _ _) hsz') (aG hsz')) ⟨ho,hb,h _ (if(z'.toArray++its2.toArray).size==z'.toArray.size then n else n+1) (bU ..) ?_⟩;have q:=PySem.IsL.update ho (λxs=>xs++its2.toArray);rw[show z'.toArray++its2.toArray=(z'++its2).toArray from by simp] at q ⊢;exact q
theorem vH
  (ho:s.heap.get? D=some (fk z' n)) (hsz:z'.length<=sizeLine)
  (h:∀h' n',Heap.SameBut D s.heap h'->h'.get? D=some (fk z'.reverse n')->Q .none {s with heap:=h'}):wpAny (model prog w) A (call (.builtin "list.reverse") [.ref D]) Q E s:=by
 refine call_meets PySem.F.slot_list_reverse ⟨_,ho,rfl⟩ PySem.F.entry_list_reverse (PySem.F.args_list_reverse_1 _) (AutoSeq1.list_reverse_list_0 D z'.toArray n (by rw[aI];exact hsz)) ⟨ho,h _ n (bU ..) ?_⟩;rw[bM _ ho (by rw[mapSeq_reverse];rfl),mapSeq_reverse]
theorem dy.split:∀{vs ws:List V} {zs:List Value},dy ρ h (vs++ws) zs->∃xs ys,zs=xs++ys/\dy ρ h vs xs/\dy ρ h ws ys
 |[],_,zs,r=>⟨[],zs,rfl,rfl,r⟩
 |_::_,_,_,zh3=>by
  obtain⟨x,zs,e,a,r⟩:=zh3;subst e;obtain⟨xs,ys,e,p,q⟩:=r.split;exact⟨x::xs,ys,by rw[e];rfl,.cons a p,q⟩
theorem dy.one{zs:List Value}(r:dy ρ h [v] zs):∃x,zs=[x]/\dH ρ h v x:=by
 obtain⟨x,xs,rfl,a,b⟩:=r;cases b;exact⟨x,rfl,a⟩
theorem dy.rev:∀{vs:List V} {xs:List Value},dy ρ h vs xs->dy ρ h vs.reverse xs.reverse
 |[],_,e=>by cases e;exact rfl
 |v::vs,_,zh2=>by
  obtain⟨x,xs,e,a,r⟩:=zh2;subst e;rw[bu,bu];exact r.rev.app (.cons a .nil)
theorem eR.setL{nm:Nat->Str}{P:PW}{h₀ h':Heap}{σ:List O}(R:kB nm P h₀ ρ σ s.heap){a:Addr}(ha:nth ρ i=some a)(ho:nth σ i=some o)(hf:foot a o'=foot a o)
  (hf1:foot a o=[a]) (sb:Heap.SameBut a s.heap h') (r:j4 nm P ρ h' a o') (hk:∀m,o= .frame m->∃m',o'= .frame m':=by walk_at "f"):eR nm P h₀ ρ σ s ρ (setN σ i o') {s with heap:=h'}:=
 eR.setC R ha ho hf (λb x e m=>by rw[sb.2 b (λq=>m (by rw[hf1,q];exact .head _))];exact e) r rfl rfl (aY sb.1.symm) hk
theorem kB.tkBut{nm:Nat->Str}{P:PW}{h₀ h':Heap}{σ:List O}(R:kB nm P h₀ ρ σ h){a:Addr}(ha:nth ρ i=some a)(ho:nth σ i=some o)(hf1:foot a o=[a])(sb:Heap.SameBut a h h'):fV h h':=
 R.tupKeep λb x e m=>by rw[sb.2 b (λq=>m (dC.mpr ⟨i,a,o,ha,ho,by rw[hf1,q];exact .head _⟩))];exact e
def QM(c:Cx)(n k i:Nat)(as:List V)(os:List O)(v:V)(H':List O):Prop:=
  ∀(A:Around) (s:Shared) (ρ:List Addr) (a:Addr) (xs:List Value) (Q E:Value->Shared->Prop),ee A n->c.R ρ os s.heap->e9 c ρ->nth ρ i=some a->dy ρ s.heap as xs->
   (∀s' z,c.Rs ρ os s ρ H' s'->dH ρ s'.heap v z->Q z s')->wpAny c.M A (call (.builtin (Hm k)) (.ref a::xs)) Q E s
structure tQ(o:O)(pre:List Value)(cn:List V):Prop where
 rep:∀{nm P ρ h a},j4 nm P ρ h a o↔∃z' n,h.get? a=some (fk (pre++z') n)/\dy ρ h cn z'
 ft:∀a,foot a o=[a]
 nf:∀m,o≠ .frame m
theorem ij{xs:List V}:tQ (.list y xs) [] xs:=⟨Iff.rfl,λI=>rfl,λI e=>nomatch e⟩
theorem mY{top:List V}{u':List Value}(e:top.reverse=cn):tQ (.stk top u') u' cn:=by subst e;exact⟨Iff.rfl,λI=>rfl,λI e=>nomatch e⟩
theorem xu{α:Type}{W:α->List O->Prop}{v:α}{m:Nat}(k:m<2^20->W v (setN st.os i o')):oP (some (v,ig (mD st i o') y m)) (K0 st W):=λhc=>
 let z:=i7 hc;⟨z.1,by rw[oV];exact k z.2⟩
theorem qm{k:Nat}{as cn':List V}(e:nth os i=some o)(l:tQ o pre cn)(l':tQ o' pre cn')
  (h:∀(A:Around) (s:Shared) (ρ:List Addr) (a:Addr) (xs z':List Value) (m:Nat) (Q E:Value->Shared->Prop),c.R ρ os s.heap->e9 c ρ->dy ρ s.heap as xs->dy ρ s.heap cn z'->z'.length=cn.length->s.heap.get? a=some (fk (pre++z') m)->
   (∀h' n' its' z,Heap.SameBut a s.heap h'->h'.get? a=some (fk (pre++its') n')->(fV s.heap h'->dy ρ h' cn' its'/\dH ρ h' v z)->Q z {s with heap:=h'})->wpAny c.M A (call (.builtin (Hm k)) (.ref a::xs)) Q E s):QM c n k i as os v (setN os i o'):=λA s ρ a xs Q E rm R ad ha vs q=>by
 obtain⟨z',m,ho,z⟩:=l.rep.mp (R.at ha e);refine h A s ρ a xs z' m Q E R ad vs z z.length ho λh' n' its' w sb e' k=>?_;have f:=l.ft a;have k:=k (R.tkBut ha e f sb);exact q _ _ (eR.setL R ha e ((l'.ft a).trans f.symm) f sb (l'.rep.mpr ⟨_,_,e',k.1⟩) λm e=>absurd e (l.nf m)) k.2
theorem D6(e:nth os i=some o)(l:tQ o pre cn)(l':tQ o' pre (cn++[v]))(hz:pre.length+cn.length<2^20):QM c n 0 i [v] os .none (setN os i o'):=
 qm e l l' λA s ρ a xs z' m Q E R ad vs z zl ho q=>by
  obtain⟨x,rfl,vx⟩:=vs.one;exact qY ho (by rw[ai,zl];exact aZ (aH hz dv)) λh' n' sb e'=>q h' n' (z'++[x]) .none sb (by rw[e',aw]) λtk=>⟨(z.up (.refl _) tk).app (.cons (vx.up (.refl _) tk) .nil),rfl⟩
theorem Fc(e:nth os i=some o)(l:tQ o pre (cn++[v]))(l':tQ o' pre cn)(hz:pre.length+(cn++[v]).length<2^20):QM c n 1 i [] os v (setN os i o'):=
 qm e l l' λA s ρ a xs z' m Q E R ad vs z zl ho q=>by
  obtain rfl:=vs;obtain⟨z1,z2,rfl,r1,r2⟩:=z.split;obtain⟨w,rfl,vw⟩:=r2.one;rw[<-aw] at ho;exact Dw ho (by rw[aw,ai,zl];exact aZ (aH hz dv)) λh' n' sb e'=>q h' n' z1 w sb e' λtk=>⟨r1.up (.refl _) tk,vw.up (.refl _) tk⟩
theorem Dc{j:Nat}{u:V}{ys:List V}(M:xg c.P.ads u j)(e2:nth os j=some (.list y ys))(e:nth os i=some o)(l:tQ o pre cn)(l':tQ o' pre (cn++ys))(hz:pre.length+cn.length+ys.length<2^20):QM c n 2 i [u] os .none (setN os i o'):=
 qm e l l' λA s ρ a xs z' m Q E R ad vs z zl ho q=>by
  obtain⟨x,rfl,vx⟩:=vs.one;obtain⟨b,hb,rfl⟩:=M ρ s.heap x ad vx;obtain⟨ws,m2,ho2,z2⟩:=R.at hb e2;exact xy ho ho2 (by rw[ai,zl,z2.length];exact aZ (aH hz dv)) λh' n' sb e'=>q h' n' (z'++ws) .none sb (by rw[e',aw]) λtk=>⟨(z.up (.refl _) tk).app (z2.up (.refl _) tk),rfl⟩
theorem xK{k:Nat}{as:List V}:oP (AP c.P.ads k i as st) (K0 st (QM c n k i as st.os)):=by
 have len0:∀{a:Nat},a<2^20->([]:List Value).length+a<2^20:=λh=>by rw[bI,bS];exact h
 match k with
 |0=>
  refine yK λv as0 e=>?_;subst e;cases as0 with
  |nil=>exact E7 (λy xs e=>xu λk=>D6 e ij ij (len0 k)) λtop u' e=>xu λk=>D6 e (mY rfl) (mY bu) (by rw[bL];exact k)
  |cons _ _=>exact N4
 |1=>
  cases as with
  |nil=>
   refine E7 (λy xs e=>yK λx xs' e2=>xu λk=>?_) λtop u' e=>yK λv top' e2=>xu λk=>?_
   .have el:=ud (Prod.eta (n7 x xs')).symm
    rw[e2,el] at e;exact Fc e ij ij (len0 (by rw[<-el];exact k))
   .subst e2
    exact Fc e (mY bu) (mY rfl) (by rw[ai,bL];exact k)
  |cons a as0=>cases as0 with
   |nil=>cases a with
    |int z k=>cases z with
     |false=>cases k with
      |ofNat n0=>cases n0 with
       |zero=>
        refine Fa λy xs e=>yK λx xs' e2=>xu λk=>?_;subst e2;exact qm e ij ij λA s ρ a xs z' m Q E R ad vs z zl ho q=>by
         obtain⟨x0,rfl,t,rfl⟩:=vs.one;obtain⟨w,ws,rfl,vw,r1⟩:=z;exact Co (p:=ws) ho (by rw[zl];exact aZ (aH k dv)) λh' n' sb e'=>q h' n' ws w sb e' λtk=>⟨r1.up (.refl _) tk,vw.up (.refl _) tk⟩
       |succ _=>exact N4
      |negSucc _=>exact N4
     |true=>exact N4
    |_=>exact N4
   |cons _ _=>exact N4
 |2=>
  refine yK λu as0 e=>?_;subst e;cases as0 with
  |nil=>
   exact Ji su λj ch cs=>Fa λy0 ys e2=>E7 (λy xs e=>yM (λI=>trivial) λI=>xu λk M=>Dc M e2 e ij ij (by rw[bI,bS];exact k))
    λtop u' e=>yM (λI=>trivial) λI=>xu λk M=>Dc M e2 e (mY rfl) (mY (by rw[List.reverse_append,List.reverse_reverse])) (by rw[bL];exact k)
  |cons _ _=>exact N4
 |3=>
  cases as with
  |nil=>
   exact Fa λy xs e=>xu λk=>qm e ij ij λA s ρ a xs z' m Q E R ad vs z zl ho q=>by
    obtain rfl:=vs;exact vH (z':=z') ho (by rw[zl];exact aZ (aH k dv)) λh' n' sb e'=>q h' n' z'.reverse .none sb e' λtk=>⟨(z.up (.refl _) tk).rev,rfl⟩
  |cons _ _=>exact N4
 |_+4=>exact N4
end
end
section
set_option tactic.hygienic true
theorem mX(a b:Str)(t:Tok):(Value.str a t).isStr b=(a==b):=rfl
theorem gB{k n:Nat}{b:Bool}(e:Nat.beq k n=b):(b=true↔k=n):=by
 cases b with
 |true=>exact⟨λI=>aP e,λI=>rfl⟩
 |false=>exact⟨λh=>Bool.noConfusion h,λh=>absurd (h▸e) (by simp)⟩
section
variable{k n:Nm} {nm:Nat->Str} {ρ:List Addr} {h:Heap} {v:V} {r:List (Nat×V)} {fs:List (Nm×V)} {es:List DictEntry}
theorem hU.noRef:∀{fs:List (Nm×V)} {es:List DictEntry},hU nm ρ h fs es->es.any (·.refKey)=false
 |[],_,e=>by cases e;rfl
 |_::_,_,zh2=>by
  obtain⟨hs,t,x,r,e,_,b⟩:=zh2;subst e;rw[List.any_cons,b.noRef];rfl
theorem hU.length:∀{fs:List (Nm×V)} {es:List DictEntry},hU nm ρ h fs es->es.length=fs.length
 |[],_,e=>by cases e;rfl
 |_::_,_,zh2=>by
  obtain⟨hs,t,x,r,e,_,b⟩:=zh2;subst e;exact az (·+1) b.length
theorem kK(h:Nat.beq k n):gP n ((k,v)::r)=some v:=by
 show(match Nat.beq k n with | true=>some v | false=>gP n r)=_;rw[h]
theorem iY(h:Nat.beq k n=false):gP n ((k,v)::r)=gP n r:=by
 show(match Nat.beq k n with | true=>some v | false=>gP n r)=_;rw[h]
theorem w6{x:V}(h:Nat.beq k n):jD n v ((k,x)::r)=(k,v)::r:=by
 show(match Nat.beq k n with | true=>(k,v)::r | false=>(k,x)::jD n v r)=_;rw[h]
theorem uF{x:V}(h:Nat.beq k n=false):jD n v ((k,x)::r)=(k,x)::jD n v r:=by
 show(match Nat.beq k n with | true=>(k,v)::r | false=>(k,x)::jD n v r)=_;rw[h]
theorem hU.find(inj:∀i j,nm i=nm j->i=j):∀{fs:List (Nm×V)} {es:List DictEntry},hU nm ρ h fs es->∀n,match gP n fs with
  |some v=>∃en,es.find? (·.key.isStr (nm n))=some en/\dH ρ h v en.val
  |none=>es.find? (·.key.isStr (nm n))=none
 |[],_,e,n=>by cases e;rfl
 |(k,v)::fs,_,zh2,n=>by
  obtain⟨hs,t,x,r,e,a,b⟩:=zh2;subst e;have ih:=b.find inj n;cases q:Nat.beq k n with
  |true=>
   rw[kK q];obtain rfl:=(gB q).mp rfl;exact⟨⟨hs,.str (nm k) t,x⟩,by rw[List.find?_cons,mX,bC],a⟩
  |false=>
   have ne:(nm k==nm n)=false:=by
    rw[bK];intro z;have:=(gB q).mpr (inj _ _ z);cases this
   rw[iY q,List.find?_cons,mX,ne];exact ih
theorem hU.getL(inj:∀i j,nm i=nm j->i=j)(r:hU nm ρ h fs es)(e:gP n fs=some v):∃x,W.getL (nm n) es=some (some x)/\dH ρ h v x:=by
 have:=r.find inj n;rw[e] at this;obtain⟨en,h1,h2⟩:=this;exact⟨en.val,by unfold W.getL;rw[h1],h2⟩
theorem hU.getL_none(inj:∀i j,nm i=nm j->i=j)(r:hU nm ρ h fs es)(e:gP n fs=none):W.getL (nm n) es=some none:=by
 have:=r.find inj n;rw[e] at this;unfold W.getL;rw[this];simp [r.noRef]
theorem hU.getL_some(inj:∀i j,nm i=nm j->i=j)(r:hU nm ρ h fs es)(n:Nm):(W.getL (nm n) es).isSome=true:=by
 cases e:gP n fs with
 |none=>rw[r.getL_none inj e];rfl
 |some v=>obtain⟨x,q,_⟩:=r.getL inj e;rw[q];rfl
theorem hU.put(inj:∀i j,nm i=nm j->i=j){x:Value}(hx:dH ρ h v x)(hs:Int)(t:Tok):∀{fs:List (Nm×V)} {es:List DictEntry},hU nm ρ h fs es->hU nm ρ h (jD n v fs) (W.putL (nm n) hs (.str (nm n) t) x es)
 |[],_,e=>by cases e;exact⟨hs,t,x,[],rfl,hx,rfl⟩
 |(k,w)::fs,_,zh2=>by
  obtain⟨hk,tk,y,r,e,a,b⟩:=zh2;subst e;cases q:Nat.beq k n with
  |true=>
   rw[w6 q];obtain rfl:=(gB q).mp rfl;rw[show W.putL (nm k) hs (.str (nm k) t) x (⟨hk,.str (nm k) tk,y⟩::r)=_ from if_pos (by rw[mX,bC])];exact⟨hk,tk,x,r,rfl,hx,b⟩
  |false=>
   have ne:(nm k==nm n)=false:=by
    rw[bK];intro z;have:=(gB q).mpr (inj _ _ z);cases this
   rw[uF q,show W.putL (nm n) hs (.str (nm n) t) x (⟨hk,.str (nm k) tk,y⟩::r)=_ from if_neg (by rw[mX,ne];exact b8)];exact⟨hk,tk,y,_,rfl,a,b.put inj hx hs t⟩
theorem xl(name:Str)(hs:Int)(k v:Value):∀es:List DictEntry,(putL name hs k v es).length<=es.length+1
 |[]=>ao _
 |e::r=>by
  unfold putL
  split
  .exact au _
  .exact aC (xl name hs k v r)
theorem jk{K:Frag}{C:Addr}(h:pA K C):findIn K (.ref C) "__getattribute__"=some (some (.builtin "object.__getattribute__"))/\findIn K (.ref C) "__getattr__"=some none/\hasDictIn K C=true/\
  findIn K (.ref C) "__setattr__"=some (some (.builtin "object.__setattr__"))/\plainOver K C=true/\makesIn K C=true:=by
 unfold pA at h;obtain⟨h,e6⟩:=cW h;obtain⟨h,e5⟩:=cW h;obtain⟨h,e4⟩:=cW h;obtain⟨h,e3⟩:=cW h;obtain⟨e1,e2⟩:=cW h;exact⟨am.mp e1,am.mp e2,e3,am.mp e4,e5,e6⟩
theorem qI{K:Frag}{C:Addr}{x:Str}(h:CW K C x):findIn K (.ref C) x=some none/\takerIn K C x=some none:=
 let⟨a,b⟩:=cW h;⟨am.mp a,am.mp b⟩
theorem pC{K:Frag}{C f:Addr}{x:Str}(h:tB K C x f):findIn K (.ref C) x=some (some (.ref f))/\typeIn K (.ref f)=some (.type "function"):=
 let⟨a,b⟩:=cW h;⟨am.mp a,am.mp b⟩
end
nonrec theorem Hb{prog:Program}{w:World}{A:Around}{s:Shared}{K:Frag}{a C:Addr}{es:List DictEntry}{n:Nat}{name:Str}{v:Value}{tk:Tok}{R:Result->Shared->Prop}(X:K.In s.heap)(hC:pA K C)(hF:takerIn K C name=some none)(h1:s.heap.get? a=some (instObj C (a - 1)))(h2:s.heap.get? (a - 1)=some (dictOf es n))(hl:(getL name es).isSome=true)(hz:es.length<=900)(h:∀h' n' hs tk,Heap.SameBut (a - 1) s.heap h'->h'.get? (a - 1)=some (dictOf (putL name hs (.str name tk) v es) n')->R (.ok (.ret .none)) {s with heap:=h',toks:=s.toks+1}):codeAny (model prog w) A (.call (.builtin "object.__setattr__") ⟨[.ref a,.str name tk,v],[]⟩) R s:=by
 obtain⟨c1,c2,c3,c4,c5,c6⟩:=jk hC;have ge:InstAt s.heap a (instObj C (a - 1)) C (some (dictOf es n)):=⟨h1,rfl,rfl,h2⟩
 refine osa_open X ge c5 hF λb=>?_;obtain⟨cd,hc,hd'⟩:=any_some c3;have up:(s.heap.update (a - 1) (Obj.putName name (PyData.keyHash w.params name) (.str name s.toks) v)).get? (a - 1)=some (dictOf (putL name (PyData.keyHash w.params name) (.str name s.toks) v es) (putN name es n)):=by
  have e:=putName_dict name (PyData.keyHash w.params name) (.str name s.toks) v es n;rw[bM _ h2 (by rw[e];rfl),e]
 refine aa (aE (aa (aa (wpAny_loadPart h1 (aa ((looks_clsIn X hc).here ?_))))));rw[hd'];refine aE (a:=some (a - 1)) (aa (aE (aa ?_)));unfold nsSet;refine aa (aa (wpAny_askSetting (aE (aa (wpAny_mkText (aa (wpAny_loadPart h2 ?_)))))));have c:(!es.toArray.any (·.key.isStr name)&&es.toArray.any (·.refKey))=false:=by
  rw[<-Array.any_toList,<-Array.any_toList];unfold getL at hl
  split at hl
  .rename_i en he
   rw[List.any_eq_true.mpr ⟨en,List.mem_of_find?_eq_some he,List.find?_some he⟩];rfl
  .split at hl
   .cases hl
   .rename_i z;rw[Bool.not_eq_true] at z;rw[z,Bool.and_false]
 dsimp only[dictOf];rw[aRefKeyMayBeTheName_at,c];refine wpAny_updatePart h2 ?_;refine aa (wpAny_lookBehind up (pastItsLine_dict (by rw[aI,sizeLine_eq];have:=xl name (PyData.keyHash w.params name) (.str name s.toks) v es;omega)) ?_);exact aE (h _ _ _ _ (bU ..) up)
theorem Gn{prog:Program}{w:World}{A:Around}{E:Value->Shared->Prop}{s:Shared}{K:Frag}{a C:Addr}{es:List DictEntry}{n:Nat}{name:Str}{v:Value}{Q:Unit->Shared->Prop}(X:K.In s.heap)(hC:pA K C)(hF:takerIn K C name=some none)
  (h1:s.heap.get? a=some (instObj C (a - 1))) (h2:s.heap.get? (a - 1)=some (dictOf es n)) (hl:(getL name es).isSome=true) (hz:es.length<=900)
  (h:∀h' n' hs tk,Heap.SameBut (a - 1) s.heap h'->h'.get? (a - 1)=some (dictOf (putL name hs (.str name tk) v es) n')->Q Unit.unit {s with heap:=h',toks:=s.toks+2}):
  wpAny (model prog w) A (setAttr (.ref a) name v) Q E s:=
 set_plain X (od:=some (dictOf es n)) ⟨h1,rfl,rfl,h2⟩ (jk hC).2.2.2.1 (Hb (s:={s with toks:=s.toks+1}) X hC hF h1 h2 hl hz λh' n' hs tk sb e=>h h' n' hs tk sb e)
theorem Cz:(k:Nat)->handedIn (mj k)=true
 |0 | 1 | 2 | 3 | 4 | 5 | 6 | 7=>by with_unfolding_all decide+kernel
 |_+8=>rfl
theorem dH.handed{ρ:List Addr}{h:Heap}{v:V}{x:Value}(vy:dH ρ h v x):handedIn x:=by
 cases v with
 |none=>cases vy;rfl
 |bool b=>cases vy;rfl
 |int _ _=>obtain⟨t,rfl⟩:=vy;rfl
 |str _ _=>obtain⟨t,rfl⟩:=vy;rfl
 |tup _=>obtain⟨_,_,rfl,_⟩:=vy;rfl
 |obj _=>obtain⟨_,_,rfl⟩:=vy;rfl
 |val y'=>obtain⟨rfl,ok⟩:=vy;exact uJ ok
 |bi k=>cases vy;exact Cz k
section
variable{c:Cx} {st:St}
theorem Cx.Ok.In(X:c.Ok){ρ:List Addr}{σ:List O}{h:Heap}(R:c.R ρ σ h):c.K.In h:=X.X.keeps R.old
def QG(c:Cx)(n:Nm)(o:V)(os:List O)(v:V):Prop:=
  ∀(A:Around) (s:Shared) (ρ:List Addr) (x:Value) (ex:Bool) (Q E:Value->Shared->Prop),c.R ρ os s.heap->e9 c ρ->dH ρ s.heap o x->
   (∀s' z,c.Rs ρ os s ρ os s'->dH ρ s'.heap v z->Q z s')->wpAny c.M A (getAttr x (c.nm n) ex) Q E s
theorem vp(X:c.Ok){n:Nm}{o:V}:oP (vL c.P o n st) (KC st (QG c n o st.os)):=
 LP λi ch cs=>I5 λC fs e2=>yM (λe3=>pU λv e4=>vE λM A s ρ x ex Q E R ad va q=>by
  obtain⟨a,ha,rfl⟩:=M ρ s.heap x ad va;obtain⟨es,m,h0,h1,h2,fr⟩:=R.at ha e2;obtain⟨hC,hF⟩:=X.fld C n e3;obtain⟨y,g,vy⟩:=fr.getL X.inj e4;obtain⟨c1,c2,c3,c4,c5,c6⟩:=jk hC;exact get_value (X.In R) (od:=some (dictOf es m)) ⟨h1,rfl,rfl,h2⟩ c1 (findObj_own c3 (qI hF).1 rfl (by rw[lookIn_dict];exact g)) (dH.handed vy) (q _ _ (eR.more R (λI I e=>e) rfl rfl (ao _)) vy)) λI=>trivial
theorem u8(X:c.Ok){n:Nm}{o:V}{v:V}{C':St}(h:vL c.P o n st=some (v,C'))(hc:All C'.cs):All st.cs/\C'.os=st.os/\QG c n o st.os v:=((vp X).out h).get hc
def QF(c:Cx)(n:Nm)(o v:V)(os H':List O):Prop:=
  ∀(A:Around) (s:Shared) (ρ:List Addr) (x y:Value) (Q:Unit->Shared->Prop) (E:Value->Shared->Prop),c.R ρ os s.heap->e9 c ρ->dH ρ s.heap o x->dH ρ s.heap v y->
   (∀s',c.Rs ρ os s ρ H' s'->Q Unit.unit s')->wpAny c.M A (setAttr x (c.nm n) y) Q E s
theorem Ar(X:c.Ok){n:Nm}{o v:V}:oP (yA c.P o n v st) (K0 st λI=>QF c n o v st.os):=
 Ji su λi ch cs=>I5 λC fs e2=>yM (λe3=>yM (λe4 hc=>⟨hc,λM A s ρ x y Q E R ad va vy q=>by
  obtain⟨a,ha,rfl⟩:=M ρ s.heap x ad va;obtain⟨es,m,h0,h1,h2,fr⟩:=R.at ha e2;obtain⟨hC,hF⟩:=X.fld C n e3;have e4:=aV e4;refine Gn (X.In R) hC (qI hF).2 h1 h2 (fr.getL_some X.inj n) (by rw[fr.length];omega) λh' n' hs tk sb e5=>q _ ?_;have tk:fV s.heap h':=R.tupKeep λb z e m=>by
   rw[sb.2 b (λq=>m (dC.mpr ⟨i,a,_,ha,e2,by rw[q];exact .tail _ (.head _)⟩))];exact e
  refine eR.setC R ha e2 rfl (λb z e m=>?_) ⟨_,n',h0,?_,e5,(fr.up (.refl _) tk).put X.inj (vy.up (.refl _) tk) hs _⟩ rfl rfl (aY sb.1.symm)
  .rw[sb.2 b (λq=>m (by rw[q];exact .tail _ (.head _)))];exact e
  .rw[sb.2 a (λq=>absurd q.symm (bG (Nat.sub_lt h0 Nat.zero_lt_one)))];exact h1⟩) λI=>trivial) λI=>trivial
end
end
section
variable{st:St} {fi:Nat} {c:Cx} {A:Around} {env:Env} {s:Shared} {E:Value->Shared->Prop} {pos:Pos}
theorem vF{n:Nm}{v:V}(h:pW st fi n=some v):∃b,nth st.os fi=some (.frame b)/\gP n b=some v:=by
 unfold pW at h;cases e:nth st.os fi with
 |none=>rw[e] at h;cases h
 |some o=>
  rw[e] at h;cases o with
  |frame b=>exact⟨b,rfl,h⟩
  |_=>cases h
theorem qk{n:Nm}{v:V}(h:pW st fi n=some v){ρ:List Addr}{Q:Value->Shared->Prop}(en:dE env fi ρ)
  (hl:env.scope.names.lookup (c.nm n)=some .local) (R:c.R ρ st.os s.heap) (q:∀y,dH ρ s.heap v y->Q y s):wpAny c.M A (loadName env (c.nm n)) Q E s:=by
 obtain⟨b,e1,e2⟩:=vF h;obtain⟨m,hm,z⟩:=R.at en.loc e1;obtain⟨x,e3,vx⟩:=z n v e2;exact cj en.kind hl hm e3 (q x vx)
theorem g8(X:c.Ok){n:Nm}{v:V}(h:c.P.glob n=some v){ρ:List Addr}{Q:Value->Shared->Prop}(en:dE env fi ρ)
  (hl:env.scope.names.lookup (c.nm n)=some .globalImplicit) (hd:(c.nm n==("__debug__":Str))=false) (R:c.R ρ st.os s.heap) (q:∀y,dH ρ s.heap v y->Q y s):
  wpAny c.M A (eval (.Name (c.nm n) pos) env) Q E s:=by
 obtain⟨x,hx,vx⟩:=X.glob n v h;have vx':dH ρ s.heap v x:=vx.up (λI I e=>by cases e) (.of_keeps R.old);have g:=X.g.keeps R.old;have b:=X.b.keeps R.old;rw[<-en.glob] at g;rw[<-en.blt] at b;rcases hx with hx | ⟨h1,h2⟩
 .exact Name_function_global en.kind hl (loadGlobal_global g hx (q x vx')) hd
 .exact Name_function_global en.kind hl (loadGlobal_builtin g h1 b h2 (q x vx')) hd
def QN(c:Cx)(x t:V)(os:List O)(v:V):Prop:=
  ∀(A:Around) (s:Shared) (ρ:List Addr) (a b:Value) (Q E:Value->Shared->Prop),c.R ρ os s.heap->dH ρ s.heap x a->dH ρ s.heap t b->
   (∀s' z,c.Rs ρ os s ρ os s'->dH ρ s'.heap v z->Q z s')->wpAny c.M A (call (.builtin "isinstance") [a,b]) Q E s
theorem Gv{x t:V}:oP (wK x t st) (KC st (QN c x t st.os)):=by
 have go:∀{k:Nat} {r:Bool} {P:Value->Shared->Prop},(∀ρ (s:Shared) a,dH ρ s.heap x a->P a s)->(∀(A:Around) (s:Shared) (a:Value) (Q E:Value->Shared->Prop),P a s->(∀k,Q (.bool r) {s with toks:=k})->wpAny c.M A (call (.builtin "isinstance") [a,mj k]) Q E s)->QN c x (.bi k) st.os (.bool r):=
  λhP h A s ρ a b Q E R va vb q=>by
   obtain rfl:=vb;exact h A s a Q E (hP _ _ _ va) λk=>q _ _ (eR.more0 R (λI I e=>e) rfl rfl) rfl
 cases t with
 |bi k=>match k with
  |0=>exact N4
  |1=>exact N4
  |2=>cases x with
   |str _ _=>exact vE (go (P:=λa I=>∃z u,a= .str z u) (λI I I ⟨u,e⟩=>⟨_,u,e⟩) λA s a Q E ⟨_,_,e⟩ q=>by subst e;exact IsiPair.str_str (q _))
   |int _ _=>exact vE (go (P:=λa I=>∃z u,a= .int z u) (λI I I ⟨u,e⟩=>⟨_,u,e⟩) λA s a Q E ⟨_,_,e⟩ q=>by subst e;exact IsiPair.int_str (q _))
   |tup _=>exact vE (go (P:=λa s=>∃d z',a= .ref d/\IsTup s.heap d z') (λI I I ⟨d,z',e,it,_⟩=>⟨d,_,e,it⟩) λA s a Q E ⟨_,_,e,o,ho,hcl,_⟩ q=>by subst e;exact IsiPair.tuple_str ho hcl (q _))
   |_=>exact N4
  |3=>cases x with
   |str _ _=>exact vE (go (P:=λa I=>∃z u,a= .str z u) (λI I I ⟨u,e⟩=>⟨_,u,e⟩) λA s a Q E ⟨_,_,e⟩ q=>by subst e;exact IsiPair.str_tuple (q _))
   |int _ _=>exact vE (go (P:=λa I=>∃z u,a= .int z u) (λI I I ⟨u,e⟩=>⟨_,u,e⟩) λA s a Q E ⟨_,_,e⟩ q=>by subst e;exact IsiPair.int_tuple (q _))
   |tup _=>exact vE (go (P:=λa s=>∃d z',a= .ref d/\IsTup s.heap d z') (λI I I ⟨d,z',e,it,_⟩=>⟨d,_,e,it⟩) λA s a Q E ⟨_,_,e,o,ho,hcl,_⟩ q=>by subst e;exact IsiPair.tuple_tuple ho hcl (q _))
   |_=>exact N4
  |_+4=>exact N4
 |_=>exact N4
theorem eR.newL{nm:Nat->Str}{P:PW}{h₀ h':Heap}{ρ:List Addr}{σ:List O}(R:kB nm P h₀ ρ σ s.heap){xs:List V}{z':List Value}{n:Nat}{y:Bool}(k:∀b x,s.heap.get? b=some x->h'.get? b=some x)
  (e:h'.get? s.heap.objs.size=some (fk z' n)) (vs:dy ρ s.heap xs z'):eR nm P h₀ ρ σ s (ρ++[s.heap.objs.size]) (σ++[.list y xs]) {s with heap:=h'}/\dH (ρ++[s.heap.objs.size]) h' (.obj σ.length) (.ref s.heap.objs.size):=by
 have r:=eR.pushC (s':={s with heap:=h'}) (o:=.list y xs) R k (λx m=>by cases aj.mp m;exact fA s)
  ⟨z',n,e,vs.up (.app _ _) (.of_keeps k)⟩ rfl rfl
 have z:nth (ρ++[s.heap.objs.size]) σ.length=some s.heap.objs.size:=by rw[<-R.len];exact gr _ _
 rw[dP] at z
 by_cases hz:s.heap.objs.size<=h'.objs.size
 .exact⟨r hz,_,z,rfl⟩
 .exact absurd (ay e) (λq=>hz (aZ q))
theorem fW{c:Cx}:∀{pos:Pos} {env:Env} {ms:List ME} {es:List Expr},fX c.nm env.scope ms es=true->(backTo pos (starEach es env)).any (·.1)=false
 |_,_,[],es,h=>by obtain rfl:=jq _ _ h;rfl
 |pos,env,m::ms,es,h=>by
  obtain⟨x,xs,rfl,h1,h2⟩:=fK _ _ h;rw[ez (gQ _ _ _ _ h1)];show(false||(backTo pos (starEach xs env)).any (·.1))=false;rw[fW h2];rfl
theorem gq{M:Model}{nm:Nat->Str}{f:Value}{ms:List ME}{es:List Expr}{Q:Args->Shared->Prop}(h:fX nm env.scope ms es)
  (q:wpAny M A (spliced (backTo pos (starEach es env))) (λvs s'=>Q ⟨vs,[]⟩ s') E s):wpAny M A (evalArgs f true (backTo pos (starEach es env)) []) Q E s:=by
 cases ms with
 |nil=>
  obtain rfl:=jq _ _ h;unfold evalArgs;show wpAny M A (spliced [] >>= _) Q E s;refine aa (aK q (λvs s' h'=>?_) λI I x=>x);refine aU ?_;exact aa (aE (aa (aE (aE h'))))
 |cons m ms=>
  obtain⟨x,xs,rfl,h1,h2⟩:=fK _ _ h;rw[ez (gQ _ _ _ _ h1)] at q ⊢;exact cu q
def QK(c:Cx)(k n:Nat)(as:List V)(os:List O)(v:V)(H':List O):Prop:=
  ∀(A:Around) (s:Shared) (ρ:List Addr) (xs:List Value) (Q E:Value->Shared->Prop),ee A n->c.R ρ os s.heap->e9 c ρ->dy ρ s.heap as xs->
   (∀ρ' s' z,c.Rs ρ os s ρ' H' s'->dH ρ' s'.heap v z->Q z s')->wpAny c.M A (call (mj k) xs) Q E s
theorem Gf{k n:Nat}{as:List V}:oP (ED c.P k as st) (K0 st λv H'=>(k=0\/k=1\/k=4)/\QK c k n as st.os v H'):=by
 match k with
 |0=>
  refine Js λx e=>KC.imp (zA (n:=n)) λv T=>⟨.inl rfl,λA s ρ xs Q E rm R ad vs q=>?_⟩
  subst e;obtain⟨y,rfl,vx⟩:=vs.one;exact T A s ρ y Q E rm R ad vx (q ρ)
 |1=>
  refine yK λx as e=>Js λt e2=>KC.imp (Gv (c:=c)) λv T=>⟨.inr (.inl rfl),λA s ρ xs Q E rm R ad vs q=>?_⟩
  subst e2;subst e;obtain⟨x,_,rfl,vx,vs⟩:=vs;obtain⟨y,rfl,vy⟩:=dy.one vs;exact T A s ρ x y Q E R vx vy (q ρ)
 |4=>
  refine Js λx e=>K6 λvs e2 hc=>⟨(i7 hc).1,.inr (.inr rfl),λA s ρ xs Q E rm R ad va q=>?_⟩
  subst e2;subst e;obtain⟨y,rfl,t,z',rfl,⟨o,ho,hcl,n,hd⟩,r⟩:=va.one;refine call_list_seq (hsz:=by rw[aI,r.length];exact aZ (aH (i7 hc).2 dv)) t (.inr rfl) ho hcl hd λh' c' hk hD=>?_;rw[oV] at q;obtain⟨r1,r2⟩:=eR.newL R hk hD r (y:=true);exact q _ _ _ r1 r2
 |2=>exact N4
 |3=>exact N4
 |_+5=>exact N4
theorem wj{M:Model}{k:Nat}{first:List Value}{args:List (Bool×Sem Value)}{Q:Value->Shared->Prop}(hplain:args.any (·.1)=false)(hk:k=0\/k=1\/k=4)
  (h:wpAny M A (evalArgs (mj k) true args []) (λa s₁=>wpAny M A (call (mj k) (first++a.pos) a.kw) Q E s₁) E s):wpAny M A (callWith pos (mj k) first args []) Q E s:=by
 rcases hk with rfl | rfl | rfl
 .exact callWith_builtin hplain h
 .exact callWith_builtin hplain h
 .exact cE hplain h
theorem wR(C:Addr)(xs:List Value):Code.weight (.builtin "type.__call__" ⟨.ref C::xs,[]⟩)=1:=rfl
end
nonrec theorem xX{c:Cx}{C:Addr}{init:Nat}{as:List V}{st C':St}{n:Nat}{f:Nat->List V->St->Option (V×St)}(X:c.Ok)(IH:SC c n f)(hC:c.P.cls C=some init)(h:f init (.obj st.os.length::as) ⟨st.os++[.inst C []],st.ch,st.cs⟩=some (.none,C'))(hc:All C'.cs):All st.cs/\
  ∀(A:Around) (s:Shared) (ρ:List Addr) (xs:List Value) (Q E:Value->Shared->Prop),ee A (n+1+c.P.room)->c.R ρ st.os s.heap->e9 c ρ->dy ρ s.heap as xs->
   (∀ρ' s' z,c.Rs ρ st.os s ρ' C'.os s'->dH ρ' s'.heap (.obj st.os.length) z->Q z s')->
   codeAny c.M A (.call (.ref C) ⟨xs,[]⟩) (λr s'=>match r with | .ok (.ret v)=>Q v s' | .ok _=>False | .error e=>E e s') s:=by
 obtain⟨k1,k0,k2⟩:=IH _ _ _ _ _ h hc;refine⟨k1,λA s ρ xs Q E rm R ad vs q=>?_⟩;obtain⟨h1,h2,_⟩:=X.cls C init hC;obtain⟨m1,m2⟩:=pC h2;obtain⟨c1,c2,c3,c4,c5,c6⟩:=jk h1;have XI:=X.In R;obtain⟨hh,g,d,t,os⟩:=s;refine make_core (makes_of XI c6) (looks_findIn XI m1) (λself=>bind_fn XI self m2) (.inl rfl) ?_;have kk:∀b o,hh.get? b=some o->((hh.push emptyDict).push (instObj C hh.objs.size)).get? b=some o:=λb o e=>ae _ (ae _ e);have e1:((hh.push emptyDict).push (instObj C hh.objs.size)).get? (hh.objs.size+1)=some (instObj C hh.objs.size):=by
  have:=aB (hh.push emptyDict) (o:=instObj C hh.objs.size) rfl
  rwa [bB] at this
 have e2:((hh.push emptyDict).push (instObj C hh.objs.size)).get? hh.objs.size=some emptyDict:=ae _ (aB _ rfl);have none1:hh.get? (hh.objs.size+1)=none:=by
  cases e:hh.get? (hh.objs.size+1) with
  |none=>rfl
  |some o=>exact absurd (ay e) (by exact λz=>bD _ (Nat.lt_of_succ_lt z))
 have none0:hh.get? hh.objs.size=none:=fA ⟨hh,g,d,t,os⟩;have r0:c.Rs ρ st.os ⟨hh,g,d,t,os⟩ (ρ++[hh.objs.size+1]) (st.os++[.inst C []]) ⟨(hh.push emptyDict).push (instObj C hh.objs.size),g,d,t,os⟩:=by
  refine eR.pushC (o:=.inst C []) R kk (λx m=>?_) ⟨[],0,Nat.succ_pos _,e1,e2,rfl⟩ rfl rfl (by rw[bB,bB];exact aG (au _));rcases aD.mp m with rfl | m
  .exact none1
  .cases aj.mp m;exact none0
 have z:nth (ρ++[hh.objs.size+1]) st.os.length=some (hh.objs.size+1):=by rw[<-R.len];exact gr _ _
 have vo:dH (ρ++[hh.objs.size+1]) ((hh.push emptyDict).push (instObj C hh.objs.size)) (.obj st.os.length) (.ref (hh.objs.size+1)):=⟨_,by rw[<-dP];exact z,rfl⟩
 refine codeAny_mono (k2 _ (.ref (hh.objs.size+1)::xs) _ _ (λv s'=>v= .none/\Q (.ref (hh.objs.size+1)) s') E ⟨?_,?_,rm.handled⟩ r0.rel (eE.trans ad r0.grow) (.cons vo (r0.vs R vs)) λρ' s' y r v=>?_) λr s' z=>?_
 .show A.depth+Code.weight _+(n+c.P.room)<recursionLimit
  rw[wR];have:=rm.depth;omega
 .show A.units+1+8*(n+c.P.room)<cLine
  have:=rm.units;omega
 .refine⟨v,q ρ' s' _ (r0.trans r) (r.v r0.rel vo)⟩
 .rcases r with e | (v | _ | _ | _)<;>exact z
def QV(c:Cx)(n:Nat)(g:V)(as:List V)(os:List O)(v:V)(H':List O):Prop:=
  ∀(A:Around) (env:Env) (pos:Pos) (ms:List ME) (es:List Expr) (s:Shared) (gv:Value) (Q E:Value->Shared->Prop),(ρ:List Addr)->ee A (n+1+c.P.room)->dH ρ s.heap g gv->fX c.nm env.scope ms es->
   wpAny c.M A (spliced (backTo pos (starEach es env))) (λxs s'=>∃ρ',c.R ρ' os s'.heap/\e9 c ρ'/\dy ρ' s'.heap as xs/\∀ρ'' s'' z,c.Rs ρ' os s' ρ'' H' s''->dH ρ'' s''.heap v z->Q z s'') E s->
   wpAny c.M A (callWith pos gv [] (backTo pos (starEach es env)) []) Q E s
nonrec theorem Jd{c:Cx}{as:List V}{st:St}{ih:Ev}{n:Nat}(X:c.Ok){g:V}(IH:SC c n ih.c):oP (HY c.P ih g as st) (K0 st (QV c n g as st.os)):=by
 cases g with
 |bi k=>
  refine K0.imp (Gf (n:=n)) λv H' T A env pos ms es s gv Q E ρ rm vg ck sp=>?_;obtain rfl:=vg;refine wj (fW ck) T.1 (gq ck (aK sp (λxs s' hx=>?_) λI I e=>e));obtain⟨ρ',R,ad,vs,q⟩:=hx;exact T.2 A s' ρ' xs Q E (rm.less (by omega)) R ad vs q
 |val x=>cases x with
  |ref a=>
   have go:∀{v H'},keepIn c.K (.ref a)=true->(∀(A:Around) (s:Shared) (ρ:List Addr) (xs:List Value) (Q E:Value->Shared->Prop),ee A (n+1+c.P.room)->c.R ρ st.os s.heap->e9 c ρ->dy ρ s.heap as xs->
     (∀ρ' s' z,c.Rs ρ st.os s ρ' H' s'->dH ρ' s'.heap v z->Q z s')->codeAny c.M A (.call (.ref a) ⟨xs,[]⟩) (λr s'=>match r with | .ok (.ret v)=>Q v s' | .ok _=>False | .error e=>E e s') s)->QV c n (.val (.ref a)) as st.os v H':=
    λk h A env pos ms es s gv Q E ρ rm vg ck sp=>by
     obtain⟨rfl,_⟩:=vg;refine callWith_of (P:=λh=>c.K.In h) (by rw[fW ck];rfl) (keeps_K k) (gq ck (aK sp (λxs s' hx=>?_) λI I e=>e));obtain⟨ρ',R,ad,vs,q⟩:=hx;exact⟨X.In R,cR (h A s' ρ' xs Q E rm R ad vs q)⟩
   refine LQ (λinit hC=>LK (P:=λv st1=>ih.c init (.obj st.os.length::as) ⟨st.os++[.inst a []],st.ch,st.cs⟩=some (v,st1)) (oP.into λI I e=>e) λv st1 e=>?_) (λI=>oP.into λv C' e hc=>?_)
   .cases v with
    |none=>
     exact λhc=>⟨(IH _ _ _ _ _ e hc).1,go (X.cls _ _ hC).2.2 (xX X IH hC e hc).2⟩
    |_=>exact N4
   .obtain⟨k1,k0,k2⟩:=IH _ _ _ _ _ e hc
    exact⟨k1,go k0 λA s ρ xs Q E rm R ad vs q=>k2 A xs s ρ Q E (rm.less (by omega)) R ad vs q⟩
  |_=>exact N4
 |_=>exact N4
theorem sU:∀{nm:Nat->Str} {sc:Scope} {env:Env} {pos:Pos} {ms:List ME} {es:List Expr},fX nm sc ms es=true->(backTo pos (starEach es env)).all (λx=> !x.1)=true
 |_,_,_,_,[],es,h=>by obtain rfl:=jq _ _ h;rfl
 |nm,sc,env,pos,m::ms,es,h=>by
  obtain⟨x,xs,rfl,h1,h2⟩:=fK _ _ h;rw[ez (gQ _ _ _ _ h1)];show(true&&(backTo pos (starEach xs env)).all (λx=> !x.1))=true;rw[sU (pos:=pos) (env:=env) h2];rfl
section
variable{A:Around} {M':Bool}
theorem uH{prog:Program}{w:World}{E:Value->Shared->Prop}{s:Shared}{env:Env}{nm:Nat->Str}{sc:Scope}{ms:List ME}{o:Expr}{name:Str}{apos pos:Pos}{args:List Expr}{Q:Value->Shared->Prop}
  (hb:j9 o) (ck:fX nm sc ms args) (few:args.length<30) (hline:(apos.endLine==pos.line)=true)
  (h:wpAny (model prog w) A (eval o env) (λov s₁=>∀pl,wpAny (model prog w) A (getMethod ov name pl) (λr s₂=>wpAny (model prog w) A (callWith pos r.1 r.2 (backTo pos (starEach args env)) []) Q E s₂) E s₁) E s):
  wpAny (model prog w) A (eval (.Call (.Attribute o name apos) args [] pos) env) Q E s:=by
 rw[arm_eval_Call,hK hb];refine aa (aK h (λov s₁ h₁=>?_) λI I e=>e);refine aa (ba ?_);have hform:methodCallForm (args.length+([]:List Keyword).length) (backTo pos (starEach args env)) (backToKw pos (keywordEach [] env))=true:=by
  have e1:=sU (env:=env) (pos:=pos) ck;unfold methodCallForm;rw[e1,arm_keywordEach_nil];exact av (show args.length+0+0<30 by omega)
 have hpos:methodCallPos true o env apos pos=pure pos:=by unfold methodCallPos;simp [hline]
 unfold methodCall;rw[hform];refine aa (aU (aK (h₁ _) (λr s₂ h₂=>?_) λI I e=>e));exact aa (bV hpos h₂)
theorem iQ{n k:Nat}(r:ee A (n+1+k)):ee A (n+k):=r.less (by omega)
def BJ(M':Bool):BoolOp:=if M'=true then .And else .Or
theorem qK{M:Model}{E:Value->Shared->Prop}{s:Shared}{pos:Pos}{x y:Sem Value}{u':List (Sem Value)}{Q:Value->Shared->Prop}
  (h:wpAny M A x (λv s₁=>∃b,v= .bool b/\if GP M' b=true then wpAny M A (boolOp pos (BJ M') (y::u')) Q E s₁ else Q v s₁) E s):wpAny M A (boolOp pos (BJ M') (x::y::u')) Q E s:=by
 refine aa (aK h (λv s₁ h₁=>?_) λI I e=>e);obtain⟨b,rfl,h₁⟩:=h₁;refine aa (ba (aa (aU (cz ?_))));cases M'<;>cases b<;>first | exact aE h₁ | exact h₁
def PB(c:Cx)(n:Nat)(M':Bool)(ms:List ME)(fi:Nat)(os:List O)(v:V)(H':List O):Prop:=
  ∀(A:Around) (env:Env) (pos:Pos) (es:List Expr) (s:Shared) (ρ:List Addr) (Q E:Value->Shared->Prop),ee A (n+c.P.room)->dE env fi ρ->fX c.nm env.scope ms es->c.R ρ os s.heap->e9 c ρ->
   (∀ρ' s' y,c.Rs ρ os s ρ' H' s'->dH ρ' s'.heap v y->Q y s')->wpAny c.M A (boolOp pos (BJ M') (evalEach es env)) Q E s
theorem Av{c:Cx}{n:Nat}{fi:Nat}{e:ME->Nat->St->Option (V×St)}(H:SE c n e)(M':Bool):∀(ms:List ME) (st:St),oP (L6 e fi M' ms st) (K0 st (PB c n M' ms fi st.os))
 |[],_=>trivial
 |[m],st=>K0.imp (H.o m fi st) λv H' k2 A env pos es s ρ Q E rm en ck R ad q=>by
  obtain⟨x,xs,rfl,c1,c2⟩:=fK _ _ ck;obtain rfl:=jq _ _ c2;exact k2 A env x s ρ Q E rm en c1 R ad q
 |m::m2::ms,st=>sq (H.o m fi st) λv st1=>FQ λb e0=>yM (λeb=>K0.imp (Av H M' (m2::ms) st1) λv' H' j2 k2 A env pos es s ρ Q E rm en ck R ad q=>by
   subst e0;obtain⟨x,xs,rfl,c1,c2⟩:=fK _ _ ck;have c2':=c2;obtain⟨x2,xs,rfl,_,_⟩:=fK _ _ c2';exact qK (k2 A env x s ρ _ _ rm en c1 R ad λρ' s' y r vy=>⟨b,vy,by rw[if_pos eb];exact j2 A env pos _ s' ρ' Q E rm (en.grow r.grow) c2 r.rel (eE.trans ad r.grow) λρ2 s2 y2 r2 v2=>q ρ2 s2 y2 (r.trans r2) v2⟩))
  λeb=>nX λk2 A env pos es s ρ Q E rm en ck R ad q=>by
   subst e0;obtain⟨x,xs,rfl,c1,c2⟩:=fK _ _ ck;obtain⟨x2,xs,rfl,c2,c3⟩:=fK _ _ c2;exact qK (k2 A env x s ρ _ _ rm en c1 R ad λρ' s' y r vy=>⟨b,vy,by rw[if_neg (by rw[eb];exact b8)];exact q ρ' s' y r vy⟩)
def Nq(c:Cx)(n:Nat)(M':Bool)(ms:List ME)(fi:Nat)(os:List O)(b:Bool)(H':List O):Prop:=
  ∀(A:Around) (env:Env) (es:List Expr) (s:Shared) (ρ:List Addr) (Q:Bool->Shared->Prop) (E:Value->Shared->Prop),ee A (n+c.P.room)->dE env fi ρ->fX c.nm env.scope ms es->c.R ρ os s.heap->e9 c ρ->
   (∀ρ' s',c.Rs ρ os s ρ' H' s'->Q b s')->wpAny c.M A (allTrue (BJ M') es env) Q E s
theorem pD{env:Env}{M:Model}{E:Value->Shared->Prop}{s:Shared}{x:Expr}{xs:List Expr}{Q:Bool->Shared->Prop}
  (h:wpAny M A (PySem.isTrue x env (eval x env)) (λb s₁=>if GP M' b=true then wpAny M A (allTrue (BJ M') xs env) Q E s₁ else Q b s₁) E s):wpAny M A (allTrue (BJ M') (x::xs) env) Q E s:=by
 cases M' with
 |true=>exact wpAny_allTrue_And_cons (aK h (λb s₁ h₁=>by cases b<;>exact h₁) λI I e=>e)
 |false=>exact bY (aK h (λb s₁ h₁=>by cases b<;>exact h₁) λI I e=>e)
theorem xw{c:Cx}{n:Nat}{fi:Nat}{t:ME->Nat->St->Option (Bool×St)}(H:ST c n t)(M':Bool):∀(ms:List ME) (st:St),oP (Mb t fi M' ms st) (K0 st (Nq c n M' ms fi st.os))
 |[],st=>nX λA env es s ρ Q E rm en ck R ad q=>by
  obtain rfl:=jq _ _ ck;cases M' with
  |true=>exact wpAny_allTrue_And_nil (q ρ s (.refl R))
  |false=>exact wpAny_allTrue_Or_nil (q ρ s (.refl R))
 |m::ms,st=>sq (H.o m fi st) λb st1=>yM (λeb=>K0.imp (xw H M' ms st1) λv' H' j2 k2 A env es s ρ Q E rm en ck R ad q=>by
   obtain⟨x,xs,rfl,c1,c2⟩:=fK _ _ ck;exact pD (k2 A env x s ρ _ _ rm en c1 R ad λρ' s' r=>by rw[if_pos eb];exact j2 A env _ s' ρ' Q E rm (en.grow r.grow) c2 r.rel (eE.trans ad r.grow) λρ2 s2 r2=>q ρ2 s2 (r.trans r2)))
  λeb=>nX λk2 A env es s ρ Q E rm en ck R ad q=>by
   obtain⟨x,xs,rfl,c1,c2⟩:=fK _ _ ck;exact pD (k2 A env x s ρ _ _ rm en c1 R ad λρ' s' r=>by rw[if_neg (by rw[eb];exact b8)];exact q ρ' s' r)
def PO(c:Cx)(n:Nat)(m:Option ME)(fi:Nat)(os:List O)(v:Option V)(H':List O):Prop:=
  ∀(A:Around) (env:Env) (x:Option Expr) (s:Shared) (ρ:List Addr) (Q E:Value->Shared->Prop),ee A (n+c.P.room)->dE env fi ρ->vK c.nm env.scope m x->c.R ρ os s.heap->e9 c ρ->
   (∀ρ' s' y,c.Rs ρ os s ρ' H' s'->(match(generalizing:=false) v with | none=>y= .none | some v=>dH ρ' s'.heap v y)->Q y s')->wpAny c.M A (evalPart x env) Q E s
theorem A0{c:Cx}{n:Nat}{fi:Nat}{e:ME->Nat->St->Option (V×St)}(H:SE c n e){m:Option ME}{st:St}:oP (LY e fi m st) (K0 st (PO c n m fi st.os)):=by
 cases m with
 |none=>
  refine nX λA env x s ρ Q E rm en ck R ad q=>?_;obtain rfl:=uu _ _ ck;exact aE (q ρ s _ (.refl R) rfl)
 |some m=>
  refine sq (H.o m fi st) λv st1=>nX λk2 A env x s ρ Q E rm en ck R ad q=>?_;obtain⟨y,rfl,c1⟩:=pX _ _ ck;exact k2 A env y s ρ Q E rm en c1 R ad q
end
theorem xM{ρ:List Addr}{h:Heap}{v:Option V}{o:Option Int}{y:Bool}{x:Value}(r:match(generalizing:=false) v with | none=>x= .none | some v=>dH ρ h v x)(e:pS v=some (o,y)):rn o x:=by
 rcases yl e with⟨rfl,rfl⟩ | ⟨i,rfl,rfl⟩
 .exact r
 .obtain⟨t,rfl⟩:=r
  exact⟨t,rfl⟩
theorem Bu{nm:Nat->Str}{P:PW}{ρ:List Addr}{h:Heap}{a:Addr}{o:O}(e:HE o)(r:j4 nm P ρ h a o):∃z' m,h.get? a=some (fk z' m):=by
 cases o with
 |list y xs=>obtain⟨z',m,e,_⟩:=r;exact⟨z',m,e⟩
 |stk top u'=>obtain⟨z',m,e,_⟩:=r;exact⟨_,m,e⟩
 |_=>cases e
theorem AC(k:Nat):Slot "list" (yU k) (Hm k)/\typeOf (.builtin (Hm k))=pure (.type "method_descriptor"):=by
 match k with
 |0=>exact⟨slot_list_append,type_list_append⟩
 |1=>exact⟨PySem.F.slot_list_pop,PySem.F.type_list_pop⟩
 |2=>exact⟨PySem.F.slot_list_extend,PySem.F.type_list_extend⟩
 |k+3=>exact⟨PySem.F.slot_list_reverse,PySem.F.type_list_reverse⟩
theorem wy{vs:List V}{ys:List Value}{ρ:List Addr}{h:Heap}(e:Nat.blt vs.length 1000)(r:dy ρ h vs ys):ys.length<=sizeLine:=by
 rw[r.length];exact aZ (aH (aV e) (ax () dv))
def LO(c:Cx)(n:Nat)(m:ME)(fi:Nat)(os:List O)(q:Nat×List V)(os2:List O):Prop:=
 ∀(A:Around) (env:Env) (x:Expr) (s:Shared) (ρ:List Addr) (Q E:Value->Shared->Prop),ee A (n+c.P.room)->dE env fi ρ->dO c.nm env.scope m x->c.R ρ os s.heap->e9 c ρ->keepIn c.K (.ref q.1)->
  (∀ρ2 s2 ys,c.Rs ρ os s ρ2 os2 s2->dy ρ2 s2.heap q.2 ys->codeAny c.M A (.call (.ref q.1) ⟨ys,[]⟩) (λr s'=>match r with | .ok (.ret v)=>Q v s' | .ok _=>False | .error e=>E e s') s2)->wpAny c.M A (eval x env) Q E s
nonrec theorem CH{c:Cx}{n:Nat}{e:ME->Nat->St->Option (V×St)}{fi:Nat}{o:ME}{nn:Nm}{as:List ME}{st:St}(X:c.Ok)(He:SE c n e):oP (DB c.P e fi o nn as st) (K0 st (LO c n (.meth o nn as) fi st.os)):=by
 exact(sq (He.o o fi st) λv st1=>Ji su λi ch cs=>I5 λC fs e3=>LQ (λI I=>trivial) (λe4=>pU λf e5=>sq (j7 He as _) λvs st2=>nX λk2 M l2 A env x s ρ Q E rm en ck R ad kf h=>by
  obtain⟨o',ap,as',p,rfl,hs,hl,few,c1,c2⟩:=wc _ _ ck;refine uH hs c2 few hl (l2 A env o' s ρ _ _ rm en c1 R ad λρ1 s1 y1 r1 v1 pl=>?_);obtain⟨a,ha,rfl⟩:=M ρ1 s1.heap y1 (eE.trans ad r1.grow) v1;obtain⟨es,k,h0,h1,h2,fr⟩:=r1.rel.at ha e3;obtain⟨m1,m2⟩:=X.meth _ _ _ e5;obtain⟨c1,c2',c3,c4,c5,c6⟩:=jk m1;obtain⟨m3,m4⟩:=pC m2;refine method_fn (X.In r1.rel) (od:=some (dictOf es k)) ⟨h1,rfl,rfl,h2⟩ c1 c2' m3 m4 (by show(lookIn _ _).map _=_;rw[lookIn_dict,fr.getL_none X.inj e4];rfl) ?_;refine callWith_of (P:=λh=>c.K.In h) (by rw[fW c2];rfl) (keeps_K kf) (gq c2 (k2 A env p as' s1 ρ1 _ _ rm (en.grow r1.grow) c2 r1.rel (eE.trans ad r1.grow) λρ2 s2 ys r2 v2=>?_));exact⟨X.In r2.rel,cR (h ρ2 s2 (.ref a::ys) (r1.trans r2) (.cons ⟨a,by rw[<-dP];exact r2.grow _ _ ha,rfl⟩ v2))⟩))
nonrec theorem GV{c:Cx}{ih:Ev}{n:Nat}(X:c.Ok)(He:SE c n ih.e)(Ht:ST c n ih.t)(Hc:SC c n ih.c):SE c (n+1) (Ig c.P ih):=by
 exact(SE.in λm fi st=>by
 cases m with
 |oth=>exact N4
 |cst k=>
  have go:∀{v},(∀(A:Around) (env:Env) (x:Expr) (s:Shared) (Q E:Value->Shared->Prop),dO c.nm env.scope (.cst k) x=true->(∀t y,(∀ρ,dH ρ s.heap v y)->Q y {s with toks:=t})->wpAny c.M A (eval x env) Q E s)->oP (some (v,st)) (K0 st (PE c (n+1) (.cst k) fi st.os)):=
   λh=>nX λA env x s ρ Q E rm en ck R ad q=>h A env x s Q E ck λt y v=>q ρ _ y (.more0 R (λI I e=>e) rfl rfl) (v ρ)
  cases k with
  |none=>
   refine go λA env x s Q E ck q=>?_;obtain⟨k,p,rfl⟩:=ru _ _ ck;exact wpAny_Constant_none (q s.toks _ λI=>rfl)
  |bool b=>
   refine go λA env x s Q E ck q=>?_;obtain⟨k,p,rfl⟩:=ru _ _ ck;exact wpAny_Constant_bool (q s.toks _ λI=>rfl)
  |int i=>
   refine go λA env x s Q E ck q=>?_;obtain⟨k,p,rfl⟩:=ru _ _ ck;exact aR (q _ _ λI=>⟨_,rfl⟩)
  |str s=>
   refine go λA env x s Q E ck q=>?_;obtain⟨k,p,rfl⟩:=ru _ _ ck;exact cH (q _ _ λI=>⟨_,rfl⟩)
  |_=>exact N4
 |loc nn=>
  refine pU λv e=>nX λA env x s ρ Q E rm en ck R ad q=>?_;obtain⟨p,rfl,hl,hd⟩:=uV _ _ ck;exact wpAny_Name (qk e en hl R λy vy=>q ρ s y (.refl R) vy) hd
 |glb nn=>
  refine pU λv e=>nX λA env x s ρ Q E rm en ck R ad q=>?_;obtain⟨p,rfl,hl,hd⟩:=ve _ _ ck;exact g8 X e en hl hd R λy vy=>q ρ s y (.refl R) vy
 |tup es=>
  refine sq (j7 He es st) λvs st1=>yM (λe0=>nX λk2 A env x s ρ Q E rm en ck R ad q=>?_) λI=>trivial;obtain⟨es',k,p,rfl,c1⟩:=GJ _ _ ck;exact cN (k2 A env p es' s ρ _ _ (iQ rm) en c1 R ad λρ' s' ys r vs'=>⟨wy e0 vs',q ρ' _ _ (r.trans (.more0 r.rel (λb o e=>ae _ e) rfl rfl)) ⟨_,ys,rfl,⟨_,aB _ rfl,rfl,0,rfl⟩,vs'.up (.refl _) (.of_keeps λb o e=>ae _ e)⟩⟩)
 |lst es=>
  refine sq (j7 He es st) λvs st1=>yM (λe0 hc=>⟨hc,λk2 A env x s ρ Q E rm en ck R ad q=>?_⟩) λI=>trivial;obtain⟨es',p,rfl,c1⟩:=F9 _ _ ck;refine wpAny_List_spliced (k2 A env p es' s ρ _ _ (iQ rm) en c1 R ad λρ' s' ys r vs'=>?_);obtain⟨r1,r2⟩:=eR.newL (h':=s'.heap.push {cls:=.type "list",data:=.seq ys.toArray}) (y:=true) r.rel (λb o e=>ae _ e) (aB _ rfl) vs';exact⟨wy e0 vs',q _ _ _ (r.trans r1) r2⟩
 |dct=>
  refine λhc=>⟨hc,λA env x s ρ Q E rm en ck R ad q=>?_⟩
  obtain⟨p,rfl⟩:=Gl _ _ ck;exact wpAny_Dict_empty (q _ _ _ (eR.pushC (o:=.dict []) R (λb o e=>ae _ e) (λx m=>by cases aj.mp m;exact fA s) ⟨[],Heap.DictOf.new (knd:=PySem.strKind c.prog c.w) s.heap,rfl⟩ rfl rfl (by rw[bB];exact au _)) ⟨_,by rw[<-dP,<-R.len];exact gr _ _,rfl⟩)
 |bin op l r=>
  refine sq (He.o l fi st) λa st1=>sq (He.o r fi st1) λb st2=>K0.imp (tm (c:=c) (n:=n)) λv os j3 k2 l2 A env x s ρ Q E rm en ck R ad q=>?_;obtain⟨l',r',p,rfl,c1,c2⟩:=Hv _ _ ck;refine cQ (l2 A env l' s ρ _ _ (iQ rm) en c1 R ad λρ1 s1 y1 r1 v1=>k2 A env r' s1 ρ1 _ _ (iQ rm) (en.grow r1.grow) c2 r1.rel (eE.trans ad r1.grow) λρ2 s2 y2 r2 v2=>?_);exact j3 A s2 ρ2 y1 y2 Q E (rm.less (by omega)) r2.rel (r2.v r1.rel v1) v2 λρ3 s3 z r3 vz=>q ρ3 s3 z ((r1.trans r2).trans r3) vz
 |not x0=>
  refine sq (He.o x0 fi st) λv st1=>FQ λb e=>nX λk2 A env x s ρ Q E rm en ck R ad q=>?_;subst e;obtain⟨x',p,rfl,c1⟩:=Ak _ _ ck;refine wpAny_UnaryOp (k2 A env x' s ρ _ _ (iQ rm) en c1 R ad λρ1 s1 y1 r1 v1=>?_);obtain rfl:=v1;exact not_value (cz (q ρ1 s1 _ r1 rfl))
 |bop M' es=>
  refine K0.imp (Av He M' es st) λv os k2 A env x s ρ Q E rm en ck R ad q=>?_;obtain⟨es',p,rfl,c1⟩:=zU _ _ ck;rw[arm_eval_BoolOp];exact k2 A env p es' s ρ Q E (iQ rm) en c1 R ad q
 |cmp op l r=>
  refine sq (He.o l fi st) λa st1=>sq (He.o r fi st1) λb st2=>Ji (nV (c:=c) (n:=n)) λr ch cs=>nX λj3 k2 l2 A env x s ρ Q E rm en ck R ad q=>?_;obtain⟨l',r',p,rfl,hb,c1,c2⟩:=As _ _ ck;refine wpAny_Compare1 (l2 A env l' s ρ _ _ (iQ rm) en c1 R ad λρ1 s1 y1 r1 v1=>k2 A env r' s1 ρ1 _ _ (iQ rm) (en.grow r1.grow) c2 r1.rel (eE.trans ad r1.grow) λρ2 s2 y2 r2 v2=>?_) hb;exact j3 A s2 ρ2 y1 y2 Q E (rm.less (by omega)) r2.rel (eE.trans ad (r1.grow.trans r2.grow)) (r2.v r1.rel v1) v2 (q ρ2 s2 _ (r1.trans r2) rfl)
 |ite t a b=>
  refine sq (Ht.o t fi st) λk st1=>?_;cases k with
  |true=>
   refine K0.imp (He.o a fi st1) λv os j2 k2 A env x s ρ Q E rm en ck R ad q=>?_;obtain⟨t',a',b',p,rfl,c1,c2,c3⟩:=rF _ _ ck;exact wpAny_IfExp (k2 A env t' s ρ _ _ (iQ rm) en c1 R ad λρ1 s1 r1=>j2 A env a' s1 ρ1 Q E (iQ rm) (en.grow r1.grow) c2 r1.rel (eE.trans ad r1.grow) λρ2 s2 y2 r2 v2=>q ρ2 s2 y2 (r1.trans r2) v2)
  |false=>
   refine K0.imp (He.o b fi st1) λv os j2 k2 A env x s ρ Q E rm en ck R ad q=>?_;obtain⟨t',a',b',p,rfl,c1,c2,c3⟩:=rF _ _ ck;exact wpAny_IfExp (k2 A env t' s ρ _ _ (iQ rm) en c1 R ad λρ1 s1 r1=>j2 A env b' s1 ρ1 Q E (iQ rm) (en.grow r1.grow) c3 r1.rel (eE.trans ad r1.grow) λρ2 s2 y2 r2 v2=>q ρ2 s2 y2 (r1.trans r2) v2)
 |attr o nn=>
  refine sq (He.o o fi st) λv st1=>KC.imp (vp X) λv' j3 k2 A env x s ρ Q E rm en ck R ad q=>?_;obtain⟨o',p,rfl,hs,c1⟩:=Em _ _ ck;rw[arm_eval_Attribute,hK hs];refine aa (k2 A env o' s ρ _ _ (iQ rm) en c1 R ad λρ1 s1 y1 r1 v1=>?_);refine aa (ba (aa (aU (j3 A s1 ρ1 y1 true _ E r1.rel (eE.trans ad r1.grow) v1 λs2 z r2 vz=>?_))));exact aa (wpAny_letTemporaryGo (aE (q ρ1 s2 z (r1.trans r2) vz)))
 |item o i=>
  refine sq (He.o o fi st) λa st1=>sq (He.o i fi st1) λb st2=>KC.imp (qG (c:=c) (n:=n)) λv j3 k2 l2 A env x s ρ Q E rm en ck R ad q=>?_;obtain⟨o',i',p,rfl,hn,c1,c2⟩:=Eo _ _ ck;refine Subscript_ (l2 A env o' s ρ _ _ (iQ rm) en c1 R ad λρ1 s1 y1 r1 v1=>k2 A env i' s1 ρ1 _ _ (iQ rm) (en.grow r1.grow) c2 r1.rel (eE.trans ad r1.grow) λρ2 s2 y2 r2 v2=>?_);exact j3 A s2 ρ2 y1 y2 o' i' Q E hn (rm.less (by omega)) r2.rel (eE.trans ad (r1.grow.trans r2.grow)) (r2.v r1.rel v1) v2 λs3 z r3 vz=>q ρ2 s3 z ((r1.trans r2).trans r3) vz
 |slice o lo hi=>
  refine sq (He.o o fi st) λa st1=>sq (A0 He) λl st2=>sq (A0 He) λu st3=>KC.imp (uQ (c:=c) (n:=n)) λv T i2 k2 l2 A env x s ρ Q E rm en ck R ad q=>?_;obtain⟨lo',hi',y1,y2,f1,f2,j3⟩:=T;obtain⟨o',le,he,p,p2,rfl,c1,c2,c3⟩:=Cd _ _ ck;refine Subscript_ (l2 A env o' s ρ _ _ (iQ rm) en c1 R ad λρ1 s1 w1 r1 v1=>?_);refine wpAny_Slice (k2 A env le s1 ρ1 _ _ (iQ rm) (en.grow r1.grow) c2 r1.rel (eE.trans ad r1.grow) λρ2 s2 w2 r2 v2=>?_);refine i2 A env he s2 ρ2 _ _ (iQ rm) (en.grow (r1.grow.trans r2.grow)) c3 r2.rel (eE.trans ad (r1.grow.trans r2.grow)) λρ3 s3 w3 r3 v3=>?_;rw[evalPart_none];refine aE ?_;exact j3 A s3 ρ3 w1 w2 w3 o' p le he Q E (rm.less (by omega)) r3.rel (r3.v r2.rel (r2.v r1.rel v1)) (xM v2 f1) (xM v3 f2) λs4 z r4 vz=>q ρ3 s4 z (((r1.trans r2).trans r3).trans r4) vz
 |call f as=>
  refine sq (He.o f fi st) λg st1=>sq (j7 He as st1) λvs st2=>K0.imp (Jd X Hc) λv os j3 k2 l2 A env x s ρ Q E rm en ck R ad q=>?_;obtain⟨f',as',p,rfl,hn,c1,c2⟩:=mF _ _ ck;obtain⟨id,np,rfl⟩:∃id np,f'= .Name id np:=by
   cases f'<;>first | exact⟨_,_,rfl⟩ | cases hn
  refine bH (l2 A env _ s ρ _ _ (iQ rm) en c1 R ad λρ1 s1 y1 r1 v1=>?_);exact j3 A env p _ as' s1 y1 Q E ρ1 rm v1 c2 (k2 A env p as' s1 ρ1 _ _ (iQ rm) (en.grow r1.grow) c2 r1.rel (eE.trans ad r1.grow) λρ2 s2 ys r2 v2=>
   ⟨ρ2,r2.rel,eE.trans ad (r1.grow.trans r2.grow),v2,λρ3 s3 z r3 vz=>q ρ3 s3 z ((r1.trans r2).trans r3) vz⟩)
 |meth o nn as=>
  exact sq (CH X He) λq st2=>(oP.into (K:=K0 st2 λv os=>LO c n (.meth o nn as) fi st.os q st2.os->PE c (n+1) (.meth o nn as) fi st.os v os) λv st3 h hc=>by
   obtain⟨j1,j0,j2⟩:=Hc _ _ _ _ _ h hc;exact⟨j1,λT A env x s ρ Q E rm en ck R ad q=>T A env x s ρ Q E (iQ rm) en ck R ad j0 λρ2 s2 ys r2 v2=>j2 A ys s2 ρ2 Q E (iQ rm) r2.rel (eE.trans ad r2.grow) v2 λρ3 s3 z r3 vz=>q ρ3 s3 z (r2.trans r3) vz⟩)
 |lmeth kk o as=>
  refine sq (He.o o fi st) λv st1=>Ji su λi ch cs=>pU λcell e3=>yM (λe4=>sq (j7 He as _) λvs st3=>K0.imp (xK (c:=c) (n:=n)) λv' os j2 k2 M l2 A env x s ρ Q E rm en ck R ad q=>?_) λI=>trivial;obtain⟨o',ap,as',p,rfl,hs,hl,few,c1,c2⟩:=CA _ _ ck;refine uH hs c2 few hl (l2 A env o' s ρ _ _ (iQ rm) en c1 R ad λρ1 s1 y1 r1 v1 pl=>?_);obtain⟨a,ha,rfl⟩:=M ρ1 s1.heap y1 (eE.trans ad r1.grow) v1;obtain⟨z',m,ho⟩:=Bu e4 (r1.rel.at ha e3);refine CB ho (AC kk).1 (AC kk).2 ?_;refine callWith_builtin (fW c2) (gq c2 (k2 A env p as' s1 ρ1 _ _ (iQ rm) (en.grow r1.grow) c2 r1.rel (eE.trans ad r1.grow) λρ2 s2 ys r2 v2=>?_));exact j2 A s2 ρ2 a ys Q E (rm.less (by omega)) r2.rel (eE.trans ad (r1.grow.trans r2.grow)) (r2.grow _ _ ha) v2 λs3 z r3 vz=>q ρ2 s3 z ((r1.trans r2).trans r3) vz)
nonrec theorem Fp{c:Cx}{ih:Ev}{n:Nat}(_:c.Ok)(He:SE c n ih.e)(Ht:ST c n ih.t):ST c (n+1) (HP c.P ih):=by
 exact(ST.in λm fi st=>by
 have val:∀{m},oP (ob (ih.e m fi st) λv st=>JI v λb=>some (b,st)) (K0 st λb os=>∀(A:Around) (env:Env) (x:Expr) (s:Shared) (ρ:List Addr) (Q:Bool->Shared->Prop) (E:Value->Shared->Prop),ee A (n+1+c.P.room)->dE env fi ρ->dO c.nm env.scope m x->c.R ρ st.os s.heap->e9 c ρ->
   (∀ρ' s',c.Rs ρ st.os s ρ' os s'->Q b s')->wpAny c.M A (eval x env) (λv s'=>wpAny c.M A (truthy v) Q E s') E s):=λ{m}=>by
  refine sq (He.o m fi st) λv st1=>FQ λb e=>nX λk2 A env x s ρ Q E rm en ck R ad q=>?_;subst e;refine k2 A env x s ρ _ _ (iQ rm) en ck R ad λρ1 s1 y1 r1 v1=>?_;obtain rfl:=v1;exact cz (q ρ1 s1 r1)
 cases m with
 |not x0=>
  refine sq (Ht.o x0 fi st) λb st1=>nX λk2 A env x s ρ Q E rm en ck R ad q=>?_;obtain⟨x',p,rfl,c1⟩:=Ak _ _ ck;exact wpAny_isTrue_Not (k2 A env x' s ρ _ _ (iQ rm) en c1 R ad q)
 |bop M' es=>
  refine K0.imp (xw Ht M' es st) λv os k2 A env x s ρ Q E rm en ck R ad q=>?_;obtain⟨es',p,rfl,c1⟩:=zU _ _ ck;exact wpAny_isTrue_BoolOp (k2 A env es' s ρ Q E (iQ rm) en c1 R ad q)
 |ite t a b=>
  refine sq (Ht.o t fi st) λk st1=>?_;cases k with
  |true=>
   refine K0.imp (Ht.o a fi st1) λv os j2 k2 A env x s ρ Q E rm en ck R ad q=>?_;obtain⟨t',a',b',p,rfl,c1,c2,c3⟩:=rF _ _ ck;rw[arm_isTrue_IfExp];exact aa (k2 A env t' s ρ _ _ (iQ rm) en c1 R ad λρ1 s1 r1=>j2 A env a' s1 ρ1 Q E (iQ rm) (en.grow r1.grow) c2 r1.rel (eE.trans ad r1.grow) λρ2 s2 r2=>q ρ2 s2 (r1.trans r2))
  |false=>
   refine K0.imp (Ht.o b fi st1) λv os j2 k2 A env x s ρ Q E rm en ck R ad q=>?_;obtain⟨t',a',b',p,rfl,c1,c2,c3⟩:=rF _ _ ck;rw[arm_isTrue_IfExp];exact aa (k2 A env t' s ρ _ _ (iQ rm) en c1 R ad λρ1 s1 r1=>j2 A env b' s1 ρ1 Q E (iQ rm) (en.grow r1.grow) c3 r1.rel (eE.trans ad r1.grow) λρ2 s2 r2=>q ρ2 s2 (r1.trans r2))
 |cmp op l r=>
  refine sq (He.o l fi st) λa st1=>sq (He.o r fi st1) λb st2=>KC.imp (nV (c:=c) (n:=n)) λr j3 k2 l2 A env x s ρ Q E rm en ck R ad q=>?_;obtain⟨l',r',p,rfl,hb,c1,c2⟩:=As _ _ ck;refine bZ (l2 A env l' s ρ _ _ (iQ rm) en c1 R ad λρ1 s1 y1 r1 v1=>k2 A env r' s1 ρ1 _ _ (iQ rm) (en.grow r1.grow) c2 r1.rel (eE.trans ad r1.grow) λρ2 s2 y2 r2 v2=>?_) hb;exact j3 A s2 ρ2 y1 y2 _ E (rm.less (by omega)) r2.rel (eE.trans ad (r1.grow.trans r2.grow)) (r2.v r1.rel v1) v2 (cz (q ρ2 s2 (r1.trans r2)))
 |loc nn=>
  refine pU λv e1=>FQ λb e=>nX λA env x s ρ Q E rm en ck R ad q=>?_;subst e;obtain⟨p,rfl,hl,hd⟩:=uV _ _ ck;refine wpAny_isTrue_value (wpAny_Name (qk e1 en hl R λy vy=>?_) hd);obtain rfl:=vy;exact cz (q ρ s (.refl R))
 |call f as=>
  refine K0.imp val λb os T A env x s ρ Q E rm en ck R ad q=>?_;have T:=T A env x s ρ Q E rm en ck R ad q;obtain⟨f',as',p,rfl,hn,c1,c2⟩:=mF _ _ ck;exact wpAny_isTrue_value T
 |meth o nn as=>
  refine K0.imp val λb os T A env x s ρ Q E rm en ck R ad q=>?_;have T:=T A env x s ρ Q E rm en ck R ad q;obtain⟨o',ap,as',p,rfl,hs,hl,few,c1,c2⟩:=wc _ _ ck;exact wpAny_isTrue_value T
 |_=>exact N4)
section
variable(nm:Nat->Str) (sc:Scope)
def ip(e:Expr):Bool:= !Nat.beq (de e).t 6&& !Nat.beq (de e).t 17
def si(e:Expr):Bool:= !Nat.beq (de e).t 8
def uz:List Nm->List Expr->Bool
 |[],e=>e.isEmpty
 |n::ns,e=> !e.isEmpty&&(Nat.beq (de (ic e)).t 11&&se nm sc n (de (ic e)).x)&&uz ns e.tail
def hO(ts:List Expr):List Str:=
 ts.filterMap λ
  | .Name id pos=>if sc.names.lookup id==some .local&&pos.line==(ts.head?.map (·.pos.line)).getD 0 then some id else none
  |_=>none
def u1(vs:List Expr):Bool:=vs.any λ| .Starred .. =>true | _=>false
def ny(ns:List Nm)(ts vs:List Expr):Bool:=
 (ts.length==2||ts.length==3)&&vs.length==ts.length&&(!u1 vs)&&(hO sc ts).length==ts.length&&(hO sc ts).eraseDups.length==(hO sc ts).length&&
  (!vs.all (foldedForSure 8))&&(!vs.all (constantsAlone 8))&&hO sc ts==ns.map nm&&ns.all λn=>sc.names.lookup (nm n)==some .local
def BI(x:Stmt)(k:Nat):Bool:=Nat.beq (gi x).t 1&&Nat.beq (gi x).l.length 1&&Nat.beq (de (sG x)).t k
mutual
noncomputable def gI:MS->Stmt->Bool
 | .oth,_=>true
 | .expr e,x=>Nat.beq (gi x).t 5&&ip (sT x)&&dO nm sc e (sT x)
 | .asg n e,x=>BI x 11&&se nm sc n (de (sG x)).x&&ip (sV x)&&dO nm sc e (sV x)
 | .asgA o n e,x=>BI x 2&&(de (sG x)).x==nm n&&ip (sV x)&&dO nm sc o (k1 (sG x))&&dO nm sc e (sV x)
 | .asgI o i e,x=>BI x 3&&kJ (k2 (sG x))&&ip (sV x)&&dO nm sc o (k1 (sG x))&&dO nm sc i (k2 (sG x))&&dO nm sc e (sV x)
 | .asgT ns e,x=>BI x 8&&uz nm sc ns (kL (sG x))&&ip (sV x)&&si (sV x)&&dO nm sc e (sV x)
 | .asgD ns es,x=>BI x 8&&Nat.beq (de (sV x)).t 8&&ny nm sc ns (kL (sG x)) (kL (sV x))&&fX nm sc es (kL (sV x))
 | .aug n op e,x=>Nat.beq (gi x).t 6&&(Nat.beq (de (sT x)).t 11&&se nm sc n (de (sT x)).x)&&decide ((gi x).op=op)&&dO nm sc e (sV x)
 | .augA o n op e,x=>Nat.beq (gi x).t 6&&Nat.beq (de (sT x)).t 2&&(de (sT x)).x==nm n&&decide ((gi x).op=op)&&dO nm sc o (k1 (sT x))&&dO nm sc e (sV x)
 | .ret e,x=>Nat.beq (gi x).t 4&&vK nm sc e (gi x).o
 | .ite t a b,x=>Nat.beq (gi x).t 3&&dO nm sc t (sT x)&&iT a (sW x)&&iT b (sE x)
 | .while t b,x=>Nat.beq (gi x).t 7&&(sE x).isEmpty&&dO nm sc t (sT x)&&iT b (sW x)
 | .for n it b,x=>Nat.beq (gi x).t 2&&(sE x).isEmpty&&(Nat.beq (de (sT x)).t 11&&se nm sc n (de (sT x)).x)&&dO nm sc it (sV x)&&iT b (sW x)
 | .brk,x=>Nat.beq (gi x).t 8
 | .cont,x=>Nat.beq (gi x).t 9
 | .pass,x=>Nat.beq (gi x).t 10
noncomputable def iT:List MS->List Stmt->Bool
 |[],x=>x.isEmpty
 |m::ms,x=> !x.isEmpty&&gI m (Kk x)&&iT ms x.tail
end
section
variable{x:Stmt} {n:Nm} {e:ME}
theorem tg{k:Nat}(h:BI x k):x= .Assign [Mv (sG x) (de (sG x)) k] (sV x) (sQ x):=
 have a:=cW h;have b:=cW a.1
 (atS b.1).trans (az (Stmt.Assign · (sV x) (sQ x)) ((p8 default b.2).trans (az (·::[]) (mI a.2))))
theorem ze{e:Expr}(h:(Nat.beq (de e).t 11&&se nm sc n (de e).x)=true):e= .Name (nm n) (kQ e)/\sc.names.lookup (nm n)=some .local:=
 have a:=cW h;have b:=sx nm sc a.2
 ⟨uK a.1 b.1,b.2.1⟩
theorem xq(h:gI nm sc (.expr e) x):∃v p,x= .Expr v p/\ip v=true/\dO nm sc e v=true:=
 have a:=cW h;have b:=cW a.1
 ⟨_,_,atS b.1,b.2,a.2⟩
theorem uN(h:gI nm sc (.asg n e) x):∃p v p',x= .Assign [.Name (nm n) p] v p'/\sc.names.lookup (nm n)=some .local/\ip v=true/\dO nm sc e v=true:=
 have a:=cW h;have b:=cW a.1;have c:=cW b.1;have l:=sx nm sc c.2
 ⟨_,_,_,(tg c.1).trans (az (λy=>Stmt.Assign [.Name y (kQ (sG x))] (sV x) (sQ x)) l.1),l.2.1,b.2,a.2⟩
theorem xQ{o:ME}(h:gI nm sc (.asgA o n e) x):∃o' p v p',x= .Assign [.Attribute o' (nm n) p] v p'/\ip v=true/\dO nm sc o o'=true/\dO nm sc e v=true:=
 have a:=cW h;have b:=cW a.1;have c:=cW b.1;have d:=cW c.1
 ⟨_,_,_,_,(tg d.1).trans (az (λy=>Stmt.Assign [.Attribute (k1 (sG x)) y (kQ (sG x))] (sV x) (sQ x)) (am.mp d.2)),c.2,b.2,a.2⟩
theorem D5{o i:ME}(h:gI nm sc (.asgI o i e) x):∃o' i' p v p',x= .Assign [.Subscript o' i' p] v p'/\kJ i'=true/\ip v=true/\dO nm sc o o'=true/\dO nm sc i i'=true/\dO nm sc e v=true:=
 have a:=cW h;have b:=cW a.1;have c:=cW b.1;have d:=cW c.1;have f:=cW d.1
 ⟨_,_,_,_,_,tg f.1,f.2,d.2,c.2,b.2,a.2⟩
theorem rM{ns:List Nm}(h:gI nm sc (.asgT ns e) x):∃ts k p v p',x= .Assign [.Tuple ts k p] v p'/\uz nm sc ns ts=true/\ip v=true/\si v=true/\dO nm sc e v=true:=
 have a:=cW h;have b:=cW a.1;have c:=cW b.1;have d:=cW c.1
 ⟨_,_,_,_,_,tg d.1,d.2,c.2,b.2,a.2⟩
theorem Df{ns:List Nm}{es:List ME}(h:gI nm sc (.asgD ns es) x):∃ts k p vs k' p' p'',x= .Assign [.Tuple ts k p] (.Tuple vs k' p') p''/\ny nm sc ns ts vs=true/\fX nm sc es vs=true:=
 have a:=cW h;have b:=cW a.1;have c:=cW b.1
 ⟨_,_,_,_,_,_,_,(tg c.1).trans (az (Stmt.Assign _ · (sQ x)) (mI c.2)),b.2,a.2⟩
theorem Hp{op:Operator}(h:gI nm sc (.aug n op e) x):∃p v p',x= .AugAssign (.Name (nm n) p) op v p'/\sc.names.lookup (nm n)=some .local/\dO nm sc e v=true:=
 have a:=cW h;have b:=cW a.1;have c:=cW b.1;have l:=ze nm sc c.2
 ⟨_,_,_,(atS c.1).trans ((az (Stmt.AugAssign (sT x) · (sV x) (sQ x)) (aS b.2)).trans (az (Stmt.AugAssign · op (sV x) (sQ x)) l.1)),l.2,a.2⟩
theorem DO{op:Operator}{o:ME}(h:gI nm sc (.augA o n op e) x):∃o' p v p',x= .AugAssign (.Attribute o' (nm n) p) op v p'/\dO nm sc o o'=true/\dO nm sc e v=true:=
 have a:=cW h;have b:=cW a.1;have c:=cW b.1;have d:=cW c.1;have f:=cW d.1
 ⟨_,_,_,_,(atS f.1).trans ((az (Stmt.AugAssign (sT x) · (sV x) (sQ x)) (aS c.2)).trans (az (Stmt.AugAssign · op (sV x) (sQ x)) ((mI f.2).trans (az (Expr.Attribute (k1 (sT x)) · (kQ (sT x))) (am.mp d.2))))),b.2,a.2⟩
theorem vq{e:Option ME}(h:gI nm sc (.ret e) x):∃v p,x= .Return v p/\vK nm sc e v=true:=
 have a:=cW h
 ⟨_,_,atS a.1,a.2⟩
theorem pj{t:ME}{a b:List MS}(h:gI nm sc (.ite t a b) x):∃t' a' b' p,x= .If t' a' b' p/\dO nm sc t t'=true/\iT nm sc a a'=true/\iT nm sc b b'=true:=
 have a:=cW h;have b:=cW a.1;have c:=cW b.1
 ⟨_,_,_,_,atS c.1,c.2,b.2,a.2⟩
theorem BX{t:ME}{b:List MS}(h:gI nm sc (.while t b) x):∃t' b' p,x= .While t' b' [] p/\dO nm sc t t'=true/\iT nm sc b b'=true:=
 have a:=cW h;have b:=cW a.1;have c:=cW b.1
 ⟨_,_,_,(atS c.1).trans (az (Stmt.While (sT x) (sW x) · (sQ x)) (iv c.2)),b.2,a.2⟩
theorem Go{it:ME}{b:List MS}(h:gI nm sc (.for n it b) x):∃p it' b' p',x= .For (.Name (nm n) p) it' b' [] p'/\sc.names.lookup (nm n)=some .local/\dO nm sc it it'=true/\iT nm sc b b'=true:=
 have a:=cW h;have b:=cW a.1;have c:=cW b.1;have d:=cW c.1;have l:=ze nm sc c.2
 ⟨_,_,_,_,(atS d.1).trans ((az (Stmt.For (sT x) (sV x) (sW x) · (sQ x)) (iv d.2)).trans (az (Stmt.For · (sV x) (sW x) [] (sQ x)) l.1)),l.2,b.2,a.2⟩
theorem GY(h:gI nm sc .brk x):∃p,x= .Break p:=⟨_,atS h⟩
theorem Fb(h:gI nm sc .cont x):∃p,x= .Continue p:=⟨_,atS h⟩
theorem C8(h:gI nm sc .pass x):∃p,x= .Pass p:=⟨_,atS h⟩
theorem oq{x:List Stmt}(h:iT nm sc [] x):x=[]:=iv h
theorem gZ{m:MS}{ms:List MS}{x:List Stmt}(h:iT nm sc (m::ms) x):∃y ys,x=y::ys/\gI nm sc m y=true/\iT nm sc ms ys=true:=
 have a:=cW h;have b:=cW a.1
 ⟨_,_,rf b.1,b.2,a.2⟩
end
end
theorem gy{v:Expr}(h:ip v)(t:Option Expr)(l:Nat)(env:Env):swapsWith v t l env=pure false:=by
 cases v<;>first | rfl | cases h
theorem ky{ts:List Expr}{k:Nat}{p:Pos}{v:Expr}(h:si v)(env:Env):swappedStores [.Tuple ts k p] v env=pure none:=by
 cases v<;>first | rfl | cases h
nonrec theorem vQ{nm:Nat->Str}{ns:List Nm}{ts vs:List Expr}{k k':Nat}{p p':Pos}{env:Env}(hk:env.scope.kind= .function)(h:ny nm env.scope ns ts vs):swappedStores [.Tuple ts k p] (.Tuple vs k' p') env=pure (some (ns.map nm)):=by
 unfold ny at h;obtain⟨h,h9⟩:=cW h;obtain⟨h,h8⟩:=cW h;obtain⟨h,h7⟩:=cW h;obtain⟨h,h6⟩:=cW h;obtain⟨h,h5⟩:=cW h;obtain⟨h,h4⟩:=cW h;obtain⟨h,h3⟩:=cW h;obtain⟨h1,h2⟩:=cW h;have bk:(env.blockKind != .function)=false:=by
  unfold Env.blockKind;rw[hk];rfl
 have e8:=am.mp h8;unfold swappedStores;have a1:(!(ts.length==2||ts.length==3)||vs.length != ts.length||env.blockKind != .function)=false:=by
  rw[h1,bk];simp only[bne,h2,Bool.not_true,Bool.or_false]
 have a3:u1 vs=false:=by simpa using h3
 have a4:((hO env.scope ts).length != ts.length||(hO env.scope ts).eraseDups.length != (hO env.scope ts).length)=false:=by
  simp only[bne,h4,h5,Bool.not_true,Bool.or_false]
 have a6:vs.all (foldedForSure 8)=false:=by simpa using h6
 have a7:vs.all (constantsAlone 8)=false:=by simpa using h7
 dsimp only;have no:∀{b:Bool},b=false->¬b=true:=λe=>by rw[e];exact b8
 refine(if_neg (no a1)).trans ?_;refine(if_neg (no a3)).trans ?_;refine(if_neg (no a4)).trans ?_;refine(if_neg (no a6)).trans ?_;refine(if_neg (no a7)).trans ?_;exact az (λz=>pure (some z)) e8
def qJ(ρ:List Addr)(h:Heap):Fl->Flow->Prop
 | .next,f=>f= .next
 | .brk,f=>f= .brk
 | .cont,f=>f= .cont
 | .ret v,f=>∃x,f= .ret x/\dH ρ h v x
section
variable(c:Cx)
def PX(n:Nat)(m:MS)(fi:Nat)(os:List O)(fl:Fl)(H':List O):Prop:=
 ∀(A:Around) (env:Env) (x:Stmt) (s:Shared) (ρ:List Addr) (Q:Flow->Shared->Prop) (E:Value->Shared->Prop),ee A (n+c.P.room)->dE env fi ρ->gI c.nm env.scope m x->c.R ρ os s.heap->e9 c ρ->
  (∀ρ' s' N1,c.Rs ρ os s ρ' H' s'->qJ ρ' s'.heap fl N1->Q N1 s')->wpAny c.M A (exec x env) Q E s
def SX(n:Nat)(f:MS->Nat->St->Option (Fl×St)):Prop:=∀m fi st fl C',f m fi st=some (fl,C')->All C'.cs->All st.cs/\PX c n m fi st.os fl C'.os
def PS(n:Nat)(m:List MS)(fi:Nat)(os:List O)(fl:Fl)(H':List O):Prop:=
 ∀(A:Around) (env:Env) (x:List Stmt) (s:Shared) (ρ:List Addr) (Q:Flow->Shared->Prop) (E:Value->Shared->Prop),ee A (n+c.P.room)->dE env fi ρ->iT c.nm env.scope m x->c.R ρ os s.heap->e9 c ρ->
  (∀ρ' s' N1,c.Rs ρ os s ρ' H' s'->qJ ρ' s'.heap fl N1->Q N1 s')->wpAny c.M A (execs x env) Q E s
def SS(n:Nat)(f:List MS->Nat->St->Option (Fl×St)):Prop:=∀m fi st fl C',f m fi st=some (fl,C')->All C'.cs->All st.cs/\PS c n m fi st.os fl C'.os
def zT(m:MS)(fi:Nat)(os:List O)(fl:Fl)(H':List O):Prop:=
 ∀(A:Around) (env:Env) (x:Stmt) (s:Shared) (ρ:List Addr) (Q:Flow->Shared->Prop) (E:Value->Shared->Prop),ee A c.P.room->dE env fi ρ->gI c.nm env.scope m x->c.R ρ os s.heap->e9 c ρ->
  (∀ρ' s' N1,c.Rs ρ os s ρ' H' s'->qJ ρ' s'.heap fl N1->Q N1 s')->wpAny c.M A (exec x env) Q E s
def fJ(f:Nat)(vs:List V)(os:List O)(v:V)(H':List O):Prop:=
 ∀(A:Around) (xs:List Value) (s:Shared) (ρ:List Addr) (Q E:Value->Shared->Prop),ee A c.P.room->c.R ρ os s.heap->e9 c ρ->dy ρ s.heap vs xs->
  (∀ρ' s' y,c.Rs ρ os s ρ' H' s'->dH ρ' s'.heap v y->Q y s')->codeAny c.M A (.call (.ref f) ⟨xs,[]⟩) (λr s'=>match r with | .ok (.ret v)=>Q v s' | .ok _=>False | .error e=>E e s') s
structure tW(f:Addr)(ps:List Nm)(body:List MS)(fd:FuncData)(b:List Stmt):Prop where
 at_:∃oc od osl,c.K.lookup f=some ⟨oc,od,.func fd,osl⟩
 kind:fd.scope.kind= .function
 co:fd.scope.isCoroutine=false
 gen:fd.scope.isGenerator=false
 glob:fd.globals=mainGlobals
 blt:fd.builtins=builtinsNs
 code:codeIn c.K fd.code fd.qualname=true
 cell:∀x∈fd.scope.names,x.2≠ .cell
 loc:∀n∈ps,fd.scope.names.lookup (c.nm n)=some .local
 bind:∀s:Shared,c.K.In s.heap->∀xs:List Value,xs.length=ps.length->BindsTo s fd ⟨xs,[]⟩ ((ps.map c.nm).zip xs)
 nodup:ps.Nodup
 fbody:fd.body= .stmts b
 chk:iT c.nm fd.scope body b=true
structure Cx.More:Prop where
 fn:∀f ps body,c.P.fn f=some (ps,body)->∃fd b,tW c f ps body fd b
 spec:∀f vs os v H',c.P.spec f vs os v H'->fJ c f vs os v H'
 specK:∀f,c.P.orc f=true->keepIn c.K (.ref f)=true
 specL:∀m fi os fl H',c.P.specL m fi os fl H'->zT c m fi os fl H'
end
theorem wC{n k:Nm}{v:V}:∀b:List (Nat×V),gP k (jD n v b)=if k=n then some v else gP k b
 |[]=>by
  cases e:Nat.beq n k with
  |true=>rw[if_pos ((gB e).mp rfl).symm];exact kK e
  |false=>rw[if_neg (λz=>by have:=(gB e).mpr z.symm;cases this)];exact iY e
 |(j,x)::r=>by
  cases e:Nat.beq j n with
  |true=>
   rw[w6 e];have jn:=(gB e).mp rfl;cases e2:Nat.beq j k with
   |true=>rw[kK e2,if_pos (((gB e2).mp rfl).symm.trans jn)]
   |false=>rw[iY e2,if_neg (λz=>by have:=(gB e2).mpr (jn.trans z.symm);cases this),iY e2]
  |false=>
   rw[uF e];cases e2:Nat.beq j k with
   |true=>rw[kK e2,kK e2,if_neg (λz=>by have:=(gB e).mpr (((gB e2).mp rfl).trans z);cases this)]
   |false=>rw[iY e2,iY e2];exact wC r
def MX(c:Cx)(fi:Nat)(nn:Nm)(v:V)(os H':List O):Prop:=
  ∀(A:Around) (env:Env) (s:Shared) (ρ:List Addr) (y:Value) (Q:Unit->Shared->Prop) (E:Value->Shared->Prop),dE env fi ρ->env.scope.names.lookup (c.nm nn)=some .local->c.R ρ os s.heap->dH ρ s.heap v y->
   (∀s',c.Rs ρ os s ρ H' s'->Q Unit.unit s')->wpAny c.M A (storeName env (c.nm nn) y) Q E s
set_option backward.match.sparseCases false in
theorem d7{c:Cx}(X:c.Ok){fi:Nat}{nn:Nm}{v:V}{st C':St}(h:gW st fi nn v=some C'):C'.cs=st.cs/\C'.ch=st.ch/\MX c fi nn v st.os C'.os:=by
 have h:(match nth st.os fi with
  |some (.frame b)=>some (mD st fi (.frame (jD nn v b)))
  |_=>none)=some C':=h
 cases e:nth st.os fi with
 |none=>rw[e] at h;cases h
 |some o=>
  rw[e] at h;cases o with
  |frame b=>
   cases h;refine⟨rfl,rfl,λA env s ρ y Q E en hl R vy q=>?_⟩;obtain⟨m,hm,z⟩:=R.at en.loc e;refine wpAny_storeName_local hl hm (λh' hm' sb=>?_) en.notCls;have tk:=R.tkBut en.loc e rfl sb;refine q _ (eR.setC R en.loc e rfl (λb x e m=>by rw[sb.2 b (λq=>m (by rw[q];exact .head _))];exact e) ⟨_,hm',λk w e2=>?_⟩ rfl rfl (aY sb.1.symm));rw[wC] at e2
   by_cases hk:k=nn
   .subst hk
    rw[if_pos rfl] at e2;cases e2;exact⟨y,if_pos rfl,vy.up (.refl _) tk⟩
   .rw[if_neg hk] at e2
    obtain⟨x,h1,h2⟩:=z k w e2;exact⟨x,by rw[if_neg (λz=>hk (X.inj _ _ z))];exact h1,h2.up (.refl _) tk⟩
  |_=>cases h
inductive pV(c:Cx)(env:Env):List Nm->List (Value->Sem Unit)->Prop
 |nil:pV c env [] []
 |cons {n:Nm} {ns:List Nm} {t:Value->Sem Unit} {ts:List (Value->Sem Unit)}:env.scope.names.lookup (c.nm n)=some .local->
   (∀(A:Around) (E:Value->Shared->Prop) (s:Shared) (x:Value) (Q:Unit->Shared->Prop),wpAny c.M A (storeName env (c.nm n) x) Q E s->wpAny c.M A (t x) Q E s)->pV c env ns ts->pV c env (n::ns) (t::ts)
theorem o0{α β:Type}{o:Option α}{f:α->Option β}{b:β}(h:on o f=some b):∃a,o=some a/\f a=some b:=match o,h with
 |some a,h=>⟨a,rfl,h⟩
def MU(c:Cx)(fi:Nat)(ns:List Nm)(vs:List V)(os H':List O):Prop:=
  ∀(A:Around) (env:Env) (s:Shared) (ρ:List Addr) (ts:List (Value->Sem Unit)) (ys:List Value) (Q:Unit->Shared->Prop) (E:Value->Shared->Prop),dE env fi ρ->pV c env ns ts->c.R ρ os s.heap->dy ρ s.heap vs ys->
   (∀s',c.Rs ρ os s ρ H' s'->Q Unit.unit s')->wpAny c.M A (assignInOrder ts ys) Q E s
theorem i9{c:Cx}(X:c.Ok){fi:Nat}:∀{ns:List Nm} {vs:List V} {st C':St},kl fi ns vs st=some C'->C'.cs=st.cs/\MU c fi ns vs st.os C'.os
 |[],[],st,C',h=>by
  cases h;refine⟨rfl,λA env s ρ ts ys Q E en sts R vs q=>?_⟩;cases sts;cases vs;exact aE (q s (.refl R))
 |[],_::_,_,_,h=>by cases h
 |_::_,[],_,_,h=>by cases h
 |nn::ns,v::vs,st,C',h=>by
  obtain⟨st1,e1,h⟩:=o0 h;obtain⟨k1,k0,k2⟩:=d7 X e1;obtain⟨j1,j2⟩:=i9 X h;refine⟨j1.trans k1,λA env s ρ ts ys Q E en sts R vs q=>?_⟩;obtain⟨y,ys,rfl,vy,vys⟩:=vs;cases sts with
  |cons hl ht sts=>
   refine aa (aU (ht A E s y _ (k2 A env s ρ y _ E en hl R vy λs1 r1=>?_)));exact j2 A env s1 ρ _ ys Q E en sts r1.rel (r1.vs R vys) λs2 r2=>q s2 (r1.trans r2)
theorem qH{fi:Nat}:∀{ns:List Nm} {vs:List V} {st C':St},kl fi ns vs st=some C'->ns.length=vs.length
 |[],[],_,_,_=>rfl
 |[],_::_,_,_,h=>by cases h
 |_::_,[],_,_,h=>by cases h
 |_::_,_::_,_,_,h=>let⟨_,_,h⟩:=o0 h;az (·+1) (qH h)
theorem jH{c:Cx}{env:Env}:∀{ns:List Nm} {ts:List Expr},uz c.nm env.scope ns ts=true->pV c env ns ((assignEach ts env).map (·.2))/\(assignEach ts env).findIdx? (·.1)=none/\(assignEach ts env).length=ns.length
 |[],ts,h=>by
  obtain rfl:ts=[]:=iv h;exact⟨.nil,rfl,rfl⟩
 |nn::ns,ts,h=>by
  have a:=cW h;have b:=cW a.1;have l:=ze _ _ b.2;obtain⟨s1,s2,s3⟩:=jH a.2;rw[show ts=ic ts::ts.tail from rf b.1,l.1];refine⟨.cons l.2 (λA E s x Q hx=>?_) s1,?_,az (·+1) s3⟩
  .show wpAny c.M A (assign (.Name (c.nm nn) _) env x) Q E s
   rw[arm_assign_Name];exact aa (ba (wpAny_bindName hx))
  .show List.findIdx? (λz=>z.1) ((false,assign (.Name (c.nm nn) (kQ (ic ts))) env)::assignEach ts.tail env)=none
   rw[List.findIdx?_cons];simp only[Bool.false_eq_true,if_false,s2];rfl
theorem qO{c:Cx}{env:Env}:∀{ns:List Nm},(∀n∈ns,env.scope.names.lookup (c.nm n)=some .local)->pV c env ns ((ns.map c.nm).map λn=>bindName env n)
 |[],_=>.nil
 |nn::ns,h=>.cons (h nn (.head _)) (λA E s x Q hx=>wpAny_bindName hx) (qO λk m=>h k (.tail _ m))
theorem qR{prog:Program}{w:World}{A:Around}{E:Value->Shared->Prop}{s:Shared}{l:Addr}{z':List Value}{m k:Nat}{i:Int}{t:Tok}{v:Value}{Q:Unit->Shared->Prop}(ho:s.heap.get? l=some (fk z' m))(hi:i=(k:Int))(hfit:k<2^20)(hn:k<z'.length)
  (hQ:∀h' m',h'.get? l=some (fk (z'.set k v) m')->Heap.SameBut l s.heap h'->Q Unit.unit {s with heap:=h'}):
  wpAny (model prog w) A (setItem (.ref l) (.int i t) v) Q E s:=by
 have hl:s.heap.IsList l z'.toArray:=⟨_,ho,rfl,m,rfl⟩
 have hx:z'.toArray[k]?=some z'[k]:=by simp [hn]
 have up:=PySem.IsL.update ho (λxs=>xs.setIfInBounds k v);rw[if_pos (by simp)] at up;rw[show z'.toArray.setIfInBounds k v=(z'.set k v).toArray from by simp] at up;have h0:0<=i:=by omega
 have hf:i<2^63:=by omega
 clear hfit;unfold setItem
 try with_reducible refine aU ?_
 first | refine aa (aE ?_) | skip
 refine aa (wpAny_sequenceKey hl.typeIs () ?_);refine aa (wpAny_callSpecial?_slot (name:=Str.ofString "__setitem__") hl.typeIs slot_list_setitem
  (wpAny_call_entry slot_list_setitem hl.typeIs entry_list_setitem ?_ (args_list_setitem _ _ _)))
 show wpAny _ _ (Builtin.List.listSubscript? (.int i t) >>= _) _ _ s;refine aa (wpAny_listSubscript_int (fitsIndex_of h0 hf) ?_);clear hf h0;subst hi;show wpAny _ _ ((seqItemAt l k >>= λr=>pure (r.map (k,·))) >>= _) _ _ s;refine aa (aa (wpAny_seqItemAt ho rfl (aE ?_)));rw[hx];show wpAny _ _ (setSeqItemAt l k v >>= _) _ _ s;refine aa (wpAny_setSeqItemAt ho rfl ?_)
 first
  |exact aa (aE (aE ⟨.none,rfl,aE (hQ _ m up (bU ..))⟩))
  |exact aE ⟨.none,rfl,aE (hQ _ m up (bU ..))⟩
theorem Bq{op:Operator}{a b v:V}(h:Al op a b=some v):op= .Add/\∃y i z j,a= .int y i/\b= .int z j/\v= .int (y||z) (i+j):=by
 cases op with
 |Add=>
  cases a with
  |int y i=>
   cases b with
   |int z j=>exact⟨rfl,_,_,_,_,rfl,rfl,(ac h).symm⟩
   |_=>cases h
  |_=>cases h
 |_=>cases h
section
set_option tactic.hygienic true
theorem um{op:Operator}{a b v:V}(h:Al op a b=some v){prog:Program}{w:World}{A:Around}{s:Shared}{ρ:List Addr}{x y:Value}{Q E:Value->Shared->Prop}(va:dH ρ s.heap a x)(vb:dH ρ s.heap b y)
  (q:∀z,dH ρ s.heap v z->Q z {s with toks:=s.toks+1}):wpAny (model prog w) A (inplaceOp op x y) Q E s:=by
 obtain⟨rfl,y1,i,z,j,rfl,rfl,rfl⟩:=Bq h;obtain⟨t,rfl⟩:=va;obtain⟨u,rfl⟩:=vb;exact PyProof.Rows.iadd_int (q _ ⟨_,rfl⟩)
theorem m6{v:Expr}(h:ip v)(t:Expr)(l:Nat)(env:Env):swapsWithSole [t] v l env=pure false:=gy h (some t) l env
nonrec theorem wP{nm:Nat->Str}{sc:Scope}{ns:List Nm}{ts vs:List Expr}(h:ny nm sc ns ts vs):ns.length<=3/\∀n∈ns,sc.names.lookup (nm n)=some .local:=by
 unfold ny at h;obtain⟨h,h9⟩:=cW h;obtain⟨h,h8⟩:=cW h;obtain⟨h,h7⟩:=cW h;obtain⟨h,h6⟩:=cW h;obtain⟨h,h5⟩:=cW h;obtain⟨h,h4⟩:=cW h;obtain⟨h,h3⟩:=cW h;obtain⟨h1,h2⟩:=cW h;have e8:=am.mp h8;have e4:=am.mp h4;have l:ns.length=ts.length:=by rw[<-e4,e8,af]
 refine⟨?_,λn m=>am.mp (aT.mp h9 n m)⟩;rcases Bool.or_eq_true_iff.mp h1 with z | z
 .have:=am.mp z;omega
 .have:=am.mp z;omega
theorem KW(prog:Program)(w:World)(x:Str)(t:Tok):(strKind prog w).is x (.str x t)=true:=by
 show(x==x)=true;exact bC x
section
variable{c:Cx}
theorem SX.in{n:Nat}{f:MS->Nat->St->Option (Fl×St)}(H:∀m fi st,oP (f m fi st) (K0 st (PX c n m fi st.os))):SX c n f:=λm fi st I I h=>(H m fi st).out h
theorem SX.o{n:Nat}{f:MS->Nat->St->Option (Fl×St)}(H:SX c n f)(m:MS)(fi:Nat)(st:St):oP (f m fi st) (K0 st (PX c n m fi st.os)):=oP.into λv C' h=>H m fi st v C' h
theorem SS.o{n:Nat}{f:List MS->Nat->St->Option (Fl×St)}(H:SS c n f)(m:List MS)(fi:Nat)(st:St):oP (f m fi st) (K0 st (PS c n m fi st.os)):=oP.into λv C' h=>H m fi st v C' h
theorem Ah(X:c.Ok){fi:Nat}{nn:Nm}{v:V}{st:St}{W:Fl->List O->Prop}(k:∀os,MX c fi nn v st.os os->W .next os):oP (on (gW st fi nn v) λst=>some (Fl.next,st)) (K0 st W):=
 pU λst2 h hc=>let z:=d7 X h;⟨z.1▸hc,k _ z.2.2⟩
theorem wt(X:c.Ok){fi:Nat}{ns:List Nm}{vs:List V}{st:St}{W:Fl->List O->Prop}(k:∀os,ns.length=vs.length->MU c fi ns vs st.os os->W .next os):oP (on (kl fi ns vs st) λst=>some (Fl.next,st)) (K0 st W):=
 pU λst2 h hc=>let z:=i9 X h;⟨z.1▸hc,k _ (qH h) z.2⟩
def MR(c:Cx)(j:Nat)(k v:V)(os:List O)(fl:Fl)(H':List O):Prop:=fl= .next/\∀(A:Around) (s:Shared) (ρ:List Addr) (b:Addr) (xk xv:Value) (Q:Unit->Shared->Prop) (E:Value->Shared->Prop),c.R ρ os s.heap->nth ρ j=some b->dH ρ s.heap k xk->dH ρ s.heap v xv->
  (∀s',c.Rs ρ os s ρ H' s'->Q Unit.unit s')->wpAny c.M A (setItem (.ref b) xk xv) Q E s
end
nonrec theorem Kd{c:Cx}{j:Nat}{v:V}{st:St}{{q:O}}{{k:V}}(e:nth st.os j=some q):oP (Kn j q k v st) (K0 st (MR c j k v st.os)):=by
 cases q with
 |list y xs=>cases k with
  |int z k=>
   refine pU λm em=>pU λw e2 hc=>⟨(i7 hc).1,rfl,λA s ρ b xk xv Q E R hb vk vv q=>?_⟩
   obtain⟨t,rfl⟩:=vk;obtain⟨z',w,ho,z⟩:=R.at hb e;refine qR ho (rQ em) (i7 hc).2 (by rw[z.length];exact fO e2) λh' m' e' sb=>?_;have tk:=R.tkBut hb e rfl sb;rw[oV] at q;exact q _ (eR.setL R hb e rfl rfl sb ⟨_,_,e',(z.up (.refl _) tk).setN (vv.up (.refl _) tk) m⟩)
  |_=>exact N4
 |dict ks=>cases k with
  |str y key=>
   have go:∀{ks':List Str},(ks=[]\/ks=[key])->ks'=[key]->MR c j (.str y key) v st.os .next (setN st.os j (.dict ks')):=by
    intro ks' hk hk';refine⟨rfl,λA s ρ b xk xv Q E R hb vk vv q=>?_⟩;obtain⟨t,rfl⟩:=vk;obtain⟨kvs,dk,ek⟩:=R.at hb e;refine wpAny_setItem_pairs (knd:=strKind c.prog c.w) (k:=key) (KW _ _ _ _) dk (λh' d' sb=>?_) (ax (show kvs.length<=1 from ?_) (ax () dv))
    .refine q _ (eR.setC R hb e rfl (λb x e m=>by rw[sb.2 b (λq=>m (by rw[q];exact .head _))];exact e) ⟨_,d',?_⟩ rfl rfl (aY sb.1.symm))
     subst hk';rcases hk with h | h
     .subst h
      obtain rfl:kvs=[]:=List.map_eq_nil_iff.mp ek;rfl
     .subst h
      cases kvs with
      |nil=>injection ek
      |cons kv r=>cases r with
       |nil=>obtain⟨k0,v0⟩:=kv;cases ek;simp [stored]
       |cons _ _=>cases ek
    .have:=az List.length ek
     rw[af] at this;rw[this];rcases hk with h | h
     .rw[h];exact aJ _
     .rw[h];exact ao _
   cases ks with
   |nil=>exact λhc=>⟨hc,go (.inl rfl) rfl⟩
   |cons t r=>cases r with
    |nil=>exact λhc=>⟨hc.tail,by have hk:key=t:=hc.head;subst hk;exact go (.inr rfl) rfl⟩
    |cons _ _=>exact N4
  |_=>exact N4
 |_=>exact N4
theorem BV{v:V}(h:ET v){ρ:List Addr}{hp:Heap}{x:Value}(r:dH ρ hp v x)(a:Addr):x≠ .ref a:=λe=>by
 subst e;cases v with
 |none=>injection r
 |int _ _=>obtain⟨_,r⟩:=r;injection r
 |bool _=>injection r
 |_=>injection h
theorem MA{β:Type}{K:β->St->Prop}{st:St}{f:Fl->List O->List Ch->Option (β×St)}(k:∀x os r,oP (f x os r) K):oP (LJ st f) K:=by
 obtain⟨os,ch,cs⟩:=st;cases ch with
 |nil=>exact N4
 |cons h l=>cases h with
  |l x os=>exact k x os l
  |_=>exact N4
theorem L5{β:Type}{K:β->St->Prop}{st:St}{f:V->List O->List Ch->Option (β×St)}(k:∀x os r,oP (f x os r) K):oP (M0 st f) K:=by
 obtain⟨os,ch,cs⟩:=st;cases ch with
 |nil=>exact N4
 |cons h l=>cases h with
  |k x os=>exact k x os l
  |_=>exact N4
nonrec theorem vl{c:Cx}{ih:Ev}{n:Nat}(X:c.Ok)(Y:c.More)(He:SE c n ih.e)(Ht:ST c n ih.t)(Hs:SS c n ih.ss):SX c (n+1) (ju c.P ih):=by
 exact(SX.in λm fi st=>by
 have loop:∀{m},oP (LJ st λf os r=>some (f,⟨os,r,c.P.specL m fi st.os f os::st.cs⟩)) (K0 st (PX c (n+1) m fi st.os)):=MA λf os r hc=>
  ⟨hc.tail,λA env x s ρ Q E rm en ck R ad q=>Y.specL _ _ _ _ _ hc.head A env x s ρ Q E (rm.less (by omega)) en ck R ad q⟩
 cases m with
 |oth=>exact N4
 |expr e=>
  refine sq (He.o e fi st) λv st1=>yM (λpv=>nX λk2 A env x s ρ Q E rm en ck R ad q=>?_) λI=>trivial;obtain⟨v',p,rfl,hn,c1⟩:=xq _ _ ck;refine wpAny_Expr (k2 A env v' s ρ _ _ (iQ rm) en c1 R ad λρ1 s1 y1 r1 v1=>?_) (by unfold interactive;rw[en.kind];rfl) (gy hn _ _ _);have z:=q ρ1 s1 .next r1 rfl;cases y1<;>first | exact z | exact absurd rfl (BV pv v1 _)
 |asg nn e=>
  refine sq (He.o e fi st) λv st1=>Ah X λos j2 k2 A env x s ρ Q E rm en ck R ad q=>?_;obtain⟨p,v',p',rfl,hl,hn,c1⟩:=uN _ _ ck;exact cA (k2 A env v' s ρ _ _ (iQ rm) en c1 R ad λρ1 s1 y1 r1 v1=>j2 A env s1 ρ1 y1 _ E (en.grow r1.grow) hl r1.rel v1 λs2 r2=>q ρ1 s2 .next (r1.trans r2) rfl) (gy hn _ _ _)
 |asgA o nn e=>
  refine sq (He.o e fi st) λv st1=>sq (He.o o fi st1) λa st2=>sq (Ar X) λI st3=>nX λi2 j2 k2 A env x s ρ Q E rm en ck R ad q=>?_;obtain⟨o',p,v',p',rfl,hn,c1,c2⟩:=xQ _ _ ck;refine cC (k2 A env v' s ρ _ _ (iQ rm) en c2 R ad λρ1 s1 y1 r1 v1=>?_) (m6 hn _ _ _) rfl;show wpAny c.M A (assign (.Attribute o' _ p) env y1) _ E s1;rw[arm_assign_Attribute];refine aa (aU (j2 A env o' s1 ρ1 _ _ (iQ rm) (en.grow r1.grow) c1 r1.rel (eE.trans ad r1.grow) λρ2 s2 y2 r2 v2=>?_));refine aa (ba (aa (aU (i2 A s2 ρ2 y2 y1 _ E r2.rel (eE.trans ad (r1.grow.trans r2.grow)) v2 (r2.v r1.rel v1) λs3 r3=>?_))));exact wpAny_release (q ρ2 s3 .next ((r1.trans r2).trans r3) rfl)
 |asgI o i e=>
  refine sq (He.o e fi st) λv st1=>sq (He.o o fi st1) λa st2=>sq (He.o i fi st2) λk st3=>Ji su λj ch cs=>pU λq0 e0=>K0.imp (Kd (c:=c) e0) λfl os fin M i2 j2 k2 A env x s ρ Q E rm en ck R ad q=>?_;obtain⟨rfl,fin⟩:=fin;obtain⟨o',i',p,v',p',rfl,hs,hn,c1,c2,c3⟩:=D5 _ _ ck;refine wpAny_Assign_Subscript (k2 A env v' s ρ _ _ (iQ rm) en c3 R ad λρ1 s1 y1 r1 v1=>?_) (gy hn _ _ _);refine j2 A env o' s1 ρ1 _ _ (iQ rm) (en.grow r1.grow) c1 r1.rel (eE.trans ad r1.grow) λρ2 s2 y2 r2 v2=>?_;refine i2 A env i' s2 ρ2 _ _ (iQ rm) (en.grow (r1.grow.trans r2.grow)) c2 r2.rel (eE.trans ad (r1.grow.trans r2.grow)) λρ3 s3 y3 r3 v3=>?_;obtain⟨b,hb,rfl⟩:=M ρ2 s2.heap y2 (eE.trans ad (r1.grow.trans r2.grow)) v2;exact fin A s3 ρ3 b y3 y1 _ E r3.rel (r3.grow _ _ hb) v3 (r3.v r2.rel (r2.v r1.rel v1)) λs4 r4=>q ρ3 s4 .next (((r1.trans r2).trans r3).trans r4) rfl
 |asgT ns e=>
  refine sq (He.o e fi st) λv st1=>K6 λvs ev=>wt X λos ln j2 k2 A env x s ρ Q E rm en ck R ad q=>?_;subst ev;obtain⟨ts,k,p,v',p',rfl,c0,hn,ht,c1⟩:=rM _ _ ck;refine cC (k2 A env v' s ρ _ _ (iQ rm) en c1 R ad λρ1 s1 y1 r1 v1=>?_) (m6 hn _ _ _) (ky ht _);obtain⟨t,z',rfl,it,vr⟩:=v1;obtain⟨q1,q2,q3⟩:=jH c0;show wpAny c.M A (assign (.Tuple ts k p) env (.ref t)) _ E s1;refine wpAny_assign_Tuple rm.handled it (by rw[q3,ln,aI,vr.length]) q2 λh' xb=>?_;have kp:∀b o,s1.heap.get? b=some o->h'.get? b=some o:=λb o e=>xb b o (bG (ay e)) e;have r2:=eR.more0 (s':={s1 with heap:=h'}) r1.rel kp rfl rfl;exact j2 A env _ ρ1 _ _ _ E (en.grow r1.grow) q1 r2.rel (vr.up (.refl _) (.of_keeps kp)) λs3 r3=>q ρ1 s3 .next ((r1.trans r2).trans r3) rfl
 |asgD ns es=>
  refine sq (j7 He es st) λvs st1=>wt X λos ln j2 k2 A env x s ρ Q E rm en ck R ad q=>?_;obtain⟨ts,k,p,vs',k',p',p'',rfl,c0,c1⟩:=Df _ _ ck;obtain⟨l1,l2⟩:=wP c0;rw[bL,bL] at ln;rw[exec_Assign_arm];refine aa (ba ?_);rw[m6 rfl];refine aa (aE ?_);rw[if_neg ()];refine aa (cN (k2 A env p' vs' s ρ _ _ (iQ rm) en c1 R ad λρ1 s1 ys r1 vr=>?_));refine⟨ax (by rw[vr.length,<-ln];exact l1) (ax () dv),?_⟩;rw[vQ en.kind c0];refine aa (aE ?_);unfold assignStores;dsimp only;have kp0:∀b o,s1.heap.get? b=some o->(s1.heap.push {cls:=.type "tuple",data:=.seq ys.toArray}).get? b=some o:=λb o e=>ae _ e;rw[show(ns.map c.nm).length=ys.toArray.size from by rw[af,ln,aI,vr.length]];refine aa (wpAny_rule (aa (wpAny_unpackItems_tuple rm.handled ⟨_,aB _ rfl,rfl,0,rfl⟩ λh' xb=>?_)));have kp:∀b o,s1.heap.get? b=some o->h'.get? b=some o:=λb o e=>xb b o (bG (ay (kp0 b o e))) (kp0 b o e);have r2:=eR.more0 (s':={s1 with heap:=h'}) r1.rel kp rfl rfl;have sts:=qO (c:=c) (env:=env) (ns:=ns.reverse) λn m=>l2 n (List.mem_reverse.mp m);rw[List.map_reverse] at sts;exact aa (j2 A env _ ρ1 _ _ _ E (en.grow r1.grow) sts r2.rel (vr.up (.refl _) (.of_keeps kp)).rev λs3 r3=>aE (q ρ1 s3 .next ((r1.trans r2).trans r3) rfl))
 |aug nn op e=>
  refine pU λa e0=>sq (He.o e fi st) λb st1=>pU λv e1=>Ah X λos j2 k2 A env x s ρ Q E rm en ck R ad q=>?_;obtain⟨p,v',p',rfl,hl,c1⟩:=Hp _ _ ck;refine wpAny_AugAssign_Name (qk e0 en hl R λy0 v0=>?_);refine k2 A env v' s ρ _ _ (iQ rm) en c1 R ad λρ1 s1 y1 r1 v1=>?_;refine um e1 (r1.v R v0) v1 λz vz=>?_;have r2:=eR.more0 (s':={s1 with toks:=s1.toks+1}) r1.rel (λI I e=>e) rfl rfl;exact j2 A env _ ρ1 z _ E (en.grow r1.grow) hl r2.rel vz λs3 r3=>q ρ1 s3 .next ((r1.trans r2).trans r3) rfl
 |augA o nn op e=>
  refine sq (He.o o fi st) λqv st1=>Ji (vp X) λa ch cs=>sq (He.o e fi _) λb st3=>pU λv e1=>sq (Ar X) λI st4=>nX λi2 j2 l3 k2 A env x s ρ Q E rm en ck R ad q=>?_;obtain⟨o',p,v',p',rfl,c1,c2⟩:=DO _ _ ck;refine wpAny_AugAssign_AttributeAny (k2 A env o' s ρ _ _ (iQ rm) en c1 R ad λρ1 s1 y1 r1 v1=>?_);refine l3 A s1 ρ1 y1 true _ E r1.rel (eE.trans ad r1.grow) v1 λs2 y2 r2 v2=>?_;have r12:=r1.trans r2;refine j2 A env v' s2 ρ1 _ _ (iQ rm) (en.grow r1.grow) c2 r2.rel (eE.trans ad r1.grow) λρ3 s3 y3 r3 v3=>?_;refine um e1 (r3.v r2.rel v2) v3 λz vz=>?_;have r4:=eR.more0 (s':={s3 with toks:=s3.toks+1}) r3.rel (λI I e=>e) rfl rfl;exact i2 A _ ρ3 y1 z _ E r4.rel (eE.trans ad (r1.grow.trans r3.grow)) (r3.v r2.rel (r2.v r1.rel v1)) vz λs5 r5=>q ρ3 s5 .next (((r12.trans r3).trans r4).trans r5) rfl
 |ret e=>cases e with
  |none=>
   refine nX λA env x s ρ Q E rm en ck R ad q=>?_;obtain⟨v',p,rfl,c1⟩:=vq _ _ ck;obtain rfl:=uu _ _ c1;exact wpAny_Return_none (q ρ s _ (.refl R) ⟨_,rfl,rfl⟩)
  |some e=>
   refine sq (He.o e fi st) λv st1=>nX λk2 A env x s ρ Q E rm en ck R ad q=>?_;obtain⟨v',p,rfl,c1⟩:=vq _ _ ck;obtain⟨w,rfl,c1⟩:=pX _ _ c1;exact wpAny_Return_some (k2 A env w s ρ _ _ (iQ rm) en c1 R ad λρ1 s1 y1 r1 v1=>q ρ1 s1 _ r1 ⟨y1,rfl,v1⟩)
 |ite t a b=>
  refine sq (Ht.o t fi st) λk st1=>?_;cases k with
  |true=>
   refine K0.imp (Hs.o a fi st1) λv os j2 k2 A env x s ρ Q E rm en ck R ad q=>?_;obtain⟨t',a',b',p,rfl,c1,c2,c3⟩:=pj _ _ ck;exact wpAny_If (k2 A env t' s ρ _ _ (iQ rm) en c1 R ad λρ1 s1 r1=>j2 A env a' s1 ρ1 Q E (iQ rm) (en.grow r1.grow) c2 r1.rel (eE.trans ad r1.grow) λρ2 s2 f2 r2 v2=>q ρ2 s2 f2 (r1.trans r2) v2)
  |false=>
   refine K0.imp (Hs.o b fi st1) λv os j2 k2 A env x s ρ Q E rm en ck R ad q=>?_;obtain⟨t',a',b',p,rfl,c1,c2,c3⟩:=pj _ _ ck;exact wpAny_If (k2 A env t' s ρ _ _ (iQ rm) en c1 R ad λρ1 s1 r1=>j2 A env b' s1 ρ1 Q E (iQ rm) (en.grow r1.grow) c3 r1.rel (eE.trans ad r1.grow) λρ2 s2 f2 r2 v2=>q ρ2 s2 f2 (r1.trans r2) v2)
 |brk=>
  refine nX λA env x s ρ Q E rm en ck R ad q=>?_;obtain⟨p,rfl⟩:=GY _ _ ck;exact wpAny_Break (q ρ s _ (.refl R) rfl)
 |cont=>
  refine nX λA env x s ρ Q E rm en ck R ad q=>?_;obtain⟨p,rfl⟩:=Fb _ _ ck;exact wpAny_Continue (q ρ s _ (.refl R) rfl)
 |pass=>
  refine nX λA env x s ρ Q E rm en ck R ad q=>?_;obtain⟨p,rfl⟩:=C8 _ _ ck;exact wpAny_Pass (q ρ s _ (.refl R) rfl)
 |«while» t b=>exact loop
 |«for» nn it b=>exact loop)
nonrec theorem CS{c:Cx}{ih:Ev}{n:Nat}(Hx:SX c (n+1) (ju c.P ih))(Hs:SS c n ih.ss):SS c (n+1) (DN c.P ih):=by
 exact(λm fi st I I h=>oP.out (K:=K0 st (PS c (n+1) m fi st.os)) (by
 cases m with
 |nil=>
  refine nX λA env x s ρ Q E rm en ck R ad q=>?_;obtain rfl:=oq _ _ ck;exact aM (q ρ s _ (.refl R) rfl)
 |cons x r=>
  have iX:∀{f st1},(∀ρ h g,qJ ρ h f g->g≠ .next)->oP (some (f,st1)) (K0 st1 λf' os=>PX c (n+1) x fi st.os f st1.os->PS c (n+1) (x::r) fi st.os f' os):=λnx=>nX λk2 A env x s ρ Q E rm en ck R ad q=>by
   obtain⟨y,ys,rfl,c1,c2⟩:=gZ _ _ ck;refine ak (k2 A env y s ρ _ _ rm en c1 R ad λρ1 s1 f1 r1 v1=>?_);have z:=q ρ1 s1 f1 r1 v1;cases f1 with
   |next=>exact absurd rfl (nx _ _ _ v1)
   |_=>exact z
  refine sq (Hx.o x fi st) λf st1=>?_;cases f with
  |next=>
   refine K0.imp (Hs.o r fi st1) λf' os j2 k2 A env x s ρ Q E rm en ck R ad q=>?_;obtain⟨y,ys,rfl,c1,c2⟩:=gZ _ _ ck;refine ak (k2 A env y s ρ _ _ rm en c1 R ad λρ1 s1 f1 r1 v1=>?_);obtain rfl:=v1;exact j2 A env ys s1 ρ1 Q E (iQ rm) (en.grow r1.grow) c2 r1.rel (eE.trans ad r1.grow) λρ2 s2 f2 r2 v2=>q ρ2 s2 f2 (r1.trans r2) v2
  |brk=>exact iX λI I I e=>by obtain rfl:=e;exact nofun
  |cont=>exact iX λI I I e=>by obtain rfl:=e;exact nofun
  |ret v=>exact iX λI I I ⟨_,e,_⟩=>by subst e;exact nofun) h)
theorem rt:∀{ps:List Nm} {vs:List V} {b:List (Nm×V)},pZ ps vs=some b->vs.length=ps.length
 |[],[],_,_=>rfl
 |[],_::_,_,h=>by injection h
 |_::_,[],_,h=>by injection h
 |p::ps,v::vs,b,h=>by
  have h:(match(generalizing:=false) pZ ps vs with | some r=>some ((p,v)::r) | none=>none)=some b:=h;cases e:pZ ps vs with
  |some r=>exact az (·+1) (rt e)
  |none=>rw[e] at h;injection h
theorem pF{ρ:List Addr}{h:Heap}{nm:Nat->Str}(inj:∀i j,nm i=nm j->i=j):∀{ps:List Nm} {vs:List V} {xs:List Value} {b:List (Nm×V)},pZ ps vs=some b->dy ρ h vs xs->ps.Nodup->
  ∀{k:Nm} {v:V},gP k b=some v->∃x,((ps.map nm).zip xs).reverse.lookup (nm k)=some x/\dH ρ h v x
 |[],[],_,_,h,_,_,k,v,e=>by cases h;cases e
 |[],_::_,_,_,h,_,_,_,_,_=>by injection h
 |_::_,[],_,_,h,_,_,_,_,_=>by injection h
 |p::ps,w::vs,_,b,hz,zh5,nd,k,v,e=>by
  obtain⟨x,xs,e1,vx,vxs⟩:=zh5;subst e1;have hz:(match(generalizing:=false) pZ ps vs with | some r=>some ((p,w)::r) | none=>none)=some b:=hz;cases e0:pZ ps vs with
  |none=>rw[e0] at hz;injection hz
  |some r=>
   rw[e0] at hz;cases hz;obtain⟨np,nd⟩:=List.nodup_cons.mp nd;show∃y,(((nm p,x)::(ps.map nm).zip xs).reverse).lookup (nm k)=some y/\_;rw[bu,List.lookup_append];have e:(match Nat.beq p k with | true=>some w | false=>gP k r)=some v:=e;cases z:Nat.beq p k with
   |true=>
    rw[z] at e;have:=(gB z).mp rfl;subst this;cases e;have none_:((ps.map nm).zip xs).reverse.lookup (nm p)=none:=by
     rw[List.lookup_eq_none_iff];intro q hq;rw[List.mem_reverse] at hq;have:=(cO hq).1;obtain⟨j,hj,e⟩:=List.mem_map.mp this;rw[bne_iff_ne];intro z;rw[<-e] at z;exact np (inj _ _ z▸hj)
    rw[none_];exact⟨x,by simp,vx⟩
   |false=>
    rw[z] at e;obtain⟨y,h1,h2⟩:=pF inj e0 vxs nd e;exact⟨y,by rw[h1];rfl,h2⟩
nonrec theorem xm{c:Cx}{n:Nat}{f:Addr}{ps:List Nm}{body:List MS}{fd:FuncData}{bd:List Stmt}{vs:List V}{b:List (Nm×V)}{A:Around}{xs:List Value}{s:Shared}{ρ:List Addr}{os:List O}{R':Result->Shared->Prop}(X:c.Ok)(K:tW c f ps body fd bd)(eb:pZ ps vs=some b)(rm:ee A (n+1+c.P.room))(R:c.R ρ os s.heap)(vr:dy ρ s.heap vs xs)(h:∀h₀ t,(∀b o,s.heap.get? b=some o->h₀.get? b=some o)->c.Rs ρ os s (ρ++[s.heap.objs.size]) (os++[.frame b]) {s with heap:=h₀,toks:=t}->dE (callEnv fd s.heap.objs.size f) os.length (ρ++[s.heap.objs.size])->ee (A.deeper (callEnv fd s.heap.objs.size f)) (n+c.P.room)->
   wpAny c.M (A.deeper (callEnv fd s.heap.objs.size f)) (execs bd (callEnv fd s.heap.objs.size f)) (λf s'=>R' (.ok (.ret (match f with | .ret v=>v | _=>.none))) s')
    (λe s'=>wpAny c.M (A.deeper (callEnv fd s.heap.objs.size f)) (leaving (callEnv fd s.heap.objs.size f) e) (λI s''=>R' (.error e) s'') (λe' s''=>R' (.error e') s'') s') {s with heap:=h₀,toks:=t}):codeAny c.M A (.call (.ref f) ⟨xs,[]⟩) R' s:=by
 obtain⟨oc,od,osl,hf⟩:=K.at_;refine codeAny_call_def (by have:=rm.depth;omega) (X.In R _ _ hf) rfl (X.lim.keeps R.old) (codeRec_of (X.In R) K.code) K.fbody (K.bind _ (X.In R) xs (by rw[vr.length,rt eb])) K.cell (λx m=>?_) (λh₀ hns kp=>h h₀ _ kp ?_ ⟨K.kind,by rw[<-R.len];exact gr _ _,K.glob,K.blt⟩ ⟨?_,?_,rm.handled⟩) K.co K.gen K.kind
 .obtain⟨j,hj,e⟩:=List.mem_map.mp (cO m).1
  rw[<-e];exact K.loc j hj
 .refine eR.pushC (o:=.frame b) R kp (λx m=>by cases aj.mp m;exact fA s) ⟨_,hns,λk v e=>?_⟩ rfl rfl ?_
  .obtain⟨x,e1,e2⟩:=pF X.inj eb vr K.nodup e
   exact⟨x,e1,e2.up (.app _ _) (.of_keeps kp)⟩
  .obtain⟨o,es,ep,ho,_⟩:=hns
   exact aZ (ay ho)
 .show A.depth+1+(n+c.P.room)<recursionLimit
  have:=rm.depth;omega
 .show A.units+3+8*(n+c.P.room)<cLine
  have:=rm.units;omega
theorem AM{c:Cx}{f:Addr}{ps:List Nm}{body:List MS}{fd:FuncData}{bd:List Stmt}(K:tW c f ps body fd bd):keepIn c.K (.ref f):=by
 obtain⟨oc,od,osl,hf⟩:=K.at_;unfold keepIn;dsimp only;rw[hf]
theorem Gg{c:Cx}{ih:Ev}{n:Nat}(X:c.Ok)(Y:c.More)(Hs:SS c n ih.ss):SC c (n+1) (HI c.P ih):=λf vs st I I h=>oP.out (K:=K0 st λv os=>keepIn c.K (.ref f)=true/\PC c (n+1) f vs st.os v os)
 (by
  refine yM (λeo=>?_) λI=>?_
  .refine L5 λv os r=>?_
   exact λhc=>⟨hc.tail,Y.specK _ eo,λA xs s ρ Q E rm R ad vr q=>Y.spec _ _ _ _ _ hc.head A xs s ρ Q E (rm.less (by omega)) R ad vr q⟩
  refine pU λpb ef=>pU λb eb=>?_;obtain⟨fd,bd,K⟩:=Y.fn _ _ _ ef;have go:∀(fl:Fl) (st1:St) (w:V),(∀ρ hp N1,qJ ρ hp fl N1->dH ρ hp w (match N1 with | .ret v=>v | _=>.none))->oP (some (w,st1)) (K0 st1 λv os=>PS c n pb.2 st.os.length (st.os++[.frame b]) fl st1.os->keepIn c.K (.ref f)=true/\PC c (n+1) f vs st.os v os):=
   λfl st1 w hfl=>nX λk2=>⟨AM K,λA xs s ρ Q E rm R ad vr q=>xm X K eb rm R vr λh₀ t kp r0 en rm'=>k2 (A.deeper _) _ bd _ _ _ _ rm' en K.chk r0.rel (eE.trans ad r0.grow) λρ1 s1 N1 r1 v1=>q ρ1 s1 _ (r0.trans r1) (hfl _ _ _ v1)⟩
  refine sq (T:=λfl os=>PS c n pb.2 st.os.length (st.os++[.frame b]) fl os) (Hs.o pb.2 st.os.length ⟨st.os++[.frame b],st.ch,st.cs⟩) λfl st1=>?_;cases fl with
  |ret v=>exact go _ _ _ λρ hp N1 ⟨x,e,vx⟩=>by subst e;exact vx
  |next=>exact go _ _ _ λρ hp N1 e=>by obtain rfl:=e;rfl
  |_=>exact N4) h
theorem gR{c:Cx}(X:c.Ok)(Y:c.More):∀n,SE c n (ev c.P n).e/\ST c n (ev c.P n).t/\SS c n (ev c.P n).ss/\SC c n (ev c.P n).c
 |0=>⟨λI I I I I h=>absurd (show none=some _ from h) (by simp),λI I I I I h=>absurd (show none=some _ from h) (by simp),λI I I I I h=>absurd (show none=some _ from h) (by simp),λI I I I I h=>absurd (show none=some _ from h) (by simp)⟩
 |n+1=>
  let⟨he,ht,hs,hc⟩:=gR X Y n
  ⟨GV X he ht hc,Fp X he ht,CS (vl X Y he ht hs) hs,Gg X Y hs⟩
end
/-! changing the layout of the cells -/
mutual
noncomputable def RV(f:Nat->Option Nat):V->V->Prop
 | .none,w=>w= .none
 | .bool b,w=>w= .bool b
 | .int _ i,w=>∃y,w= .int y i
 | .str _ s,w=>∃y,w= .str y s
 | .tup vs,w=>∃ws,w= .tup ws/\RVs f vs ws
 | .obj i,w=>∃j,f i=some j/\w= .obj j
 | .val x,w=>w= .val x
 | .bi k,w=>w= .bi k
noncomputable def RVs(f:Nat->Option Nat):List V->List V->Prop
 |[],l=>l=[]
 |v::vs,l=>∃w ws,l=w::ws/\RV f v w/\RVs f vs ws
end
def RFs(f:Nat->Option Nat):List (Nm×V)->List (Nm×V)->Prop
 |[],l=>l=[]
 |(n,v)::fs,l=>∃w ws,l=(n,w)::ws/\RV f v w/\RFs f fs ws
def RO(f:Nat->Option Nat):O->O->Prop
 | .frame b,o=>∃b',o= .frame b'/\∀n v,gP n b'=some v->∃w,gP n b=some w/\RV f w v
 | .list _ xs,o=>(∃y ys,o= .list y ys/\RVs f xs ys)\/(∃top,o= .stk top []/\RVs f xs top.reverse)\/o= .any
 | .stk top u',o=>(∃top',o= .stk top' u'/\RVs f top top')\/o= .any\/(u'=[]/\∃y ys,o= .list y ys/\RVs f top.reverse ys)
 | .inst C fs,o=>∃fs',o= .inst C fs'/\RFs f fs fs'
 | .dict ks,o=>o= .dict ks
 | .any,o=>o= .any
mutual
theorem RV.rep{f:Nat->Option Nat}{ρ ρ':List Addr}{h:Heap}(g:∀i j,f i=some j->∀a,nth ρ i=some a->nth ρ' j=some a):∀{v w:V} {x:Value},RV f v w->dH ρ h v x->dH ρ' h w x
 | .none,_,_,e,r=>by cases e;exact r
 | .bool b,_,_,e,r=>by cases e;exact r
 | .int _ i,_,_,zh3,r=>by
  obtain⟨y,e⟩:=zh3;subst e;exact r
 | .str _ s,_,_,zh3,r=>by
  obtain⟨y,e⟩:=zh3;subst e;exact r
 | .tup vs,_,_,zh3,zh4=>by
  obtain⟨ws,e,q⟩:=zh3;obtain⟨a,z',e2,t,r⟩:=zh4;subst e;exact⟨a,z',e2,t,RVs.rep g q r⟩
 | .obj i,_,_,zh3,zh4=>by
  obtain⟨j,e,e2⟩:=zh3;obtain⟨a,e3,e4⟩:=zh4;subst e2;rw[<-dP] at e3;exact⟨a,by rw[<-dP];exact g i j e a e3,e4⟩
 | .val x,_,_,e,r=>by cases e;exact r
 | .bi k,_,_,e,r=>by cases e;exact r
theorem RVs.rep{f:Nat->Option Nat}{ρ ρ':List Addr}{h:Heap}(g:∀i j,f i=some j->∀a,nth ρ i=some a->nth ρ' j=some a):∀{v w:List V} {x:List Value},RVs f v w->dy ρ h v x->dy ρ' h w x
 |[],_,_,e,r=>by cases e;exact r
 |v::vs,_,_,zh3,zh4=>by
  obtain⟨w,ws,e,q,qs⟩:=zh3;obtain⟨x,xs,e2,r,rs⟩:=zh4;subst e;exact⟨x,xs,e2,RV.rep g q r,RVs.rep g qs rs⟩
end
theorem RVs.rev{f:Nat->Option Nat}:∀{vs ws:List V},RVs f vs ws->RVs f vs.reverse ws.reverse:=by
 have app:∀{a b c d:List V},RVs f a b->RVs f c d->RVs f (a++c) (b++d):=by
  intro a
  induction a with
  |nil=>intro b c d e q;cases e;exact q
  |cons x a ih=>intro b c d ⟨w,ws,e,q,r⟩ z;subst e;exact⟨w,_,rfl,q,ih r z⟩
 intro vs
 induction vs with
 |nil=>intro ws e;cases e;exact rfl
 |cons v vs ih=>
  intro ws ⟨w,ws',e,q,r⟩;subst e;rw[bu,bu];exact app (ih r) ⟨w,[],rfl,q,rfl⟩
theorem RFs.rep{f:Nat->Option Nat}{ρ ρ':List Addr}{h:Heap}{nm:Nat->Str}(g:∀i j,f i=some j->∀a,nth ρ i=some a->nth ρ' j=some a):∀{v w:List (Nm×V)} {x:List DictEntry},RFs f v w->hU nm ρ h v x->hU nm ρ' h w x
 |[],_,_,e,r=>by cases e;exact r
 |(n,v)::vs,_,_,zh3,zh4=>by
  obtain⟨w,ws,e,q,qs⟩:=zh3;obtain⟨hs,t,x,r,e2,a,b⟩:=zh4;subst e;exact⟨hs,t,x,r,e2,RV.rep g q a,RFs.rep g qs b⟩
theorem RO.rep{f:Nat->Option Nat}{ρ ρ':List Addr}{h:Heap}{nm:Nat->Str}{P:PW}(g:∀i j,f i=some j->∀a,nth ρ i=some a->nth ρ' j=some a){o o':O}{a:Addr}(q:RO f o o')(r:j4 nm P ρ h a o):j4 nm P ρ' h a o'/\foot a o'=foot a o:=by
 cases o with
 |frame b=>
  obtain⟨b',rfl,z⟩:=q;obtain⟨m,hm,y⟩:=r;refine⟨⟨m,hm,λn v e=>?_⟩,rfl⟩;obtain⟨w,e1,q⟩:=z n v e;obtain⟨x,e2,vx⟩:=y n w e1;exact⟨x,e2,q.rep g vx⟩
 |list y xs=>
  obtain⟨z',n,e,vs⟩:=r;rcases q with⟨y,ys,rfl,q⟩ | ⟨top,rfl,q⟩ | rfl
  .exact⟨⟨z',n,e,q.rep g vs⟩,rfl⟩
  .exact⟨⟨z',n,e,q.rep g vs⟩,rfl⟩
  .exact⟨⟨_,e,λq=>absurd (cq q) ()⟩,rfl⟩
 |stk top u'=>
  obtain⟨z',n,e,vs⟩:=r;rcases q with⟨top',rfl,q⟩ | rfl | ⟨rfl,y,ys,rfl,q⟩
  .exact⟨⟨z',n,e,q.rev.rep g vs⟩,rfl⟩
  .exact⟨⟨_,e,λq=>absurd (cq q) ()⟩,rfl⟩
  .exact⟨⟨z',n,e,q.rep g vs⟩,rfl⟩
 |inst C fs=>
  obtain⟨fs',rfl,q⟩:=q;obtain⟨es,n,h0,h1,h2,z⟩:=r;exact⟨⟨es,n,h0,h1,h2,q.rep g z⟩,rfl⟩
 |dict ks=>
  cases q;exact⟨r,rfl⟩
 |any=>
  cases q;exact⟨r,rfl⟩
structure MH(l:List Nat)(f:Nat->Option Nat)(σ σ':List O):Prop where
 len:σ'.length=l.length
 back:∀i j,f i=some j->nth l j=some i
 cell:∀j i,nth l j=some i->∃o o',nth σ i=some o/\nth σ' j=some o'/\RO f o o'
 inj:∀i j k,nth l i=some k->nth l j=some k->i=j
def jv{α:Type}(d:α)(l:List Nat)(ρ:List α):List α:=l.map λi=>(nth ρ i).getD d
theorem oz{α:Type}{d:α}:∀{l:List Nat} {ρ:List α} {j:Nat} {a:α},nth (jv d l ρ) j=some a->∃i,nth l j=some i/\(nth ρ i).getD d=a
 |[],_,_,_,e=>by cases e
 |i::l,ρ,0,a,e=>⟨i,rfl,ac e⟩
 |i::l,ρ,j+1,a,e=>oz (l:=l) (ρ:=ρ) (j:=j) e
theorem je{α:Type}{d:α}:∀{l:List Nat} {ρ:List α} {j i:Nat},nth l j=some i->nth (jv d l ρ) j=some ((nth ρ i).getD d)
 |[],_,_,_,e=>by cases e
 |k::l,ρ,0,i,e=>by cases e;rfl
 |k::l,ρ,j+1,i,e=>je (l:=l) (ρ:=ρ) (j:=j) e
theorem kB.sel{f:Nat->Option Nat}{ρ:List Addr}{h:Heap}{nm:Nat->Str}{P:PW}{h₀:Heap}{σ σ':List O}{l:List Nat}(R:kB nm P h₀ ρ σ h)(S:MH l f σ σ'):kB nm P h₀ (jv 0 l ρ) σ' h/\∀x∈dA (jv 0 l ρ) σ',x∈dA ρ σ:=by
 have at_:∀j i o,nth l j=some i->nth σ i=some o->∃a,nth ρ i=some a/\nth (jv 0 l ρ) j=some a:=λj i o e1 e2=>by
  obtain⟨a,ha⟩:=jK R.len.symm e2;exact⟨a,ha,by rw[je e1,ha];rfl⟩
 have g:∀i j,f i=some j->∀a,nth ρ i=some a->nth (jv 0 l ρ) j=some a:=λi j e a ha=>by
  rw[je (S.back i j e),ha];rfl
 have cell:∀j a o',nth (jv 0 l ρ) j=some a->nth σ' j=some o'->∃i o,nth l j=some i/\nth σ i=some o/\nth ρ i=some a/\RO f o o':=λj a o' e1 e2=>by
  obtain⟨i,e3,_⟩:=oz e1;obtain⟨o,o'',e4,e5,q⟩:=S.cell j i e3;rw[e2] at e5;cases e5;obtain⟨b,hb,e6⟩:=at_ j i o e3 e4;rw[e1] at e6;cases e6;exact⟨i,o,e3,e4,hb,q⟩
 have ft:∀x∈dA (jv 0 l ρ) σ',x∈dA ρ σ:=λx m=>by
  obtain⟨j,a,o',e1,e2,m⟩:=dC.mp m;obtain⟨i,o,e3,e4,e5,q⟩:=cell j a o' e1 e2;exact dC.mpr ⟨i,a,o,e5,e4,by rw[<-(q.rep g (R.rep i a o e5 e4)).2];exact m⟩
 refine⟨⟨?_,λj a o' e1 e2=>?_,λi j a b o q e1 e2 e3 e4 ne x m=>?_,λx m=>R.new x (ft x m),R.old⟩,ft⟩
 .unfold jv;rw[List.length_map,S.len]
 .obtain⟨i,o,e3,e4,e5,q⟩:=cell j a o' e1 e2
  exact(q.rep g (R.rep i a o e5 e4)).1
 .obtain⟨i',o1,f1,f2,f3,q1⟩:=cell i a o e1 e2
  obtain⟨j',o2,g1,g2,g3,q2⟩:=cell j b q e3 e4;rw[(q1.rep g (R.rep i' a o1 f3 f2)).2] at m;rw[(q2.rep g (R.rep j' b o2 g3 g2)).2];refine R.apart i' j' a b o1 o2 f3 f2 g3 g2 (λe=>ne (S.inj i j i' f1 (e▸g1))) x m
structure EO(hm:Heap)(fs:List Addr)(a:Addr)(h:Heap):Prop where
 same:∀b o,hm.get? b=some o->b∉fs->b≠a->h.get? b=some o
 slots:∀b o,hm.get? b=some o->b≠a->∃sl,h.get? b=some {o with slots:=sl}
 exc:∃oe vs vs',hm.get? a=some oe/\oe.data= .fields vs/\h.get? a=some {oe with data:=.fields vs'}/\1<vs'.size/\
  (vs'[1]?=some .none\/∃T oT ts,vs'[1]?=some (.ref T)/\hm.get? T=none/\h.get? T=some oT/\oT.data= .fields ts/\ts[3]?=some .none)
section
variable{hm:Heap} {fs:List Addr} {outer:List Env}
theorem EO.start{a:Addr}{oe:Obj}{vs:Array Value}(e:hm.get? a=some oe)(hd:oe.data= .fields vs)(h1:vs[1]?=some .none):EO hm fs a hm:=
 ⟨λI I x I I=>x,λI o x I=>⟨o.slots,x⟩,oe,vs,vs,e,hd,by rw[e,<-hd],(bT.mp h1).1,.inl h1⟩
theorem m8{M:Model}{A:Around}{E:Value->Shared->Prop}{s:Shared}{base:Heap}{env:Env}{L a:Addr}{oe:Obj}{vs vs':Array Value}{head:Value}{hadNext:Bool}{Q:Unit->Shared->Prop}
  (hfr:A.frames=some (env::outer)) (hl:hm.FunFrames base (env::outer)) (hf:env.frame=some L) (hin:∀b∈(env::outer).filterMap (·.frame),b∈fs)
  (h1:∀b o,hm.get? b=some o->b∉fs->b≠a->s.heap.get? b=some o) (h2:∀b o,hm.get? b=some o->b≠a->∃sl,s.heap.get? b=some {o with slots:=sl})
  (e0:hm.get? a=some oe) (hd:oe.data= .fields vs) (e1:s.heap.get? a=some {oe with data:=.fields vs'}) (hz:1<vs'.size)
  (h:∀h',EO hm fs a h'->Q Unit.unit {s with heap:=h'}):
  wpAny M A (do let x <-frameOf env;let pl <-entryPlaceOf L hadNext;let b <-EntryCells.newEntry head x .none (rawInt L) .none pl;setField (.ref a) 1 b) (λI s'=>wpAny M A (setFlight (.ref a) none) Q E s') E s:=by
 have hl':s.heap.FunFrames base (env::outer):=hl.of_keeps λb o e hn=>by
  obtain⟨sl,q⟩:=h2 b o e λz=>by subst z;rw[e0] at e;cases e;exact hn _ hd
  exact⟨_,q,rfl⟩
 have na:a∉(env::outer).filterMap (·.frame):=λm=>by
  obtain⟨_,o,e,hn⟩:=hl.mem m;rw[e0] at e;cases e;exact hn _ hd
 refine aa (wpAny_frameOf_fun hfr hl' hf λg hs=>?_);refine aa (wpAny_entryPlaceOf λpl hpl=>?_);unfold EntryCells.newEntry newFields;refine aa (wpAny_newObj_type ?_ (hpl.sizeOk5 _ _ _ _ _));have g1:g.get? a=some {oe with data:=.fields vs'}:=(hs.2.1 a na).trans e1;generalize hT:({cls:=.type "traceback",dict:=none,data:=.fields ([head,.ref L,.none,rawInt L,.none]++(if pl.isEmpty then List.replicate 6 Value.none else pl)).toArray}:Obj)=oT;have g2:(g.push oT).get? a=some {oe with data:=.fields vs'}:=ae _ g1;have gT:(g.push oT).get? g.objs.size=some oT:=by subst hT;exact aB _ rfl
 have ne:g.objs.size≠a:=Nat.ne_of_gt (ay g1);refine wpAny_setField g2 rfl hz ?_;have g3:=bM (Obj.mapFields (·.setIfInBounds 1 (Value.ref g.objs.size))) g2 rfl;have gT3:((g.push oT).update a (Obj.mapFields (·.setIfInBounds 1 (Value.ref g.objs.size)))).get? g.objs.size=some oT:=(aL _ _ (Ne.symm ne)).trans gT;have three:3<([head,.ref L,.none,rawInt L,.none]++(if pl.isEmpty then List.replicate 6 Value.none else pl)).toArray.size:=by
  simp only[aI,ai,bJ,bI];omega
 unfold setFlight;refine aa (cD (x:=.ref g.objs.size) g3 rfl (by simp [hz]) ?_);rw[if_pos (show(Value.ref g.objs.size != Value.none)=true from by simp)];have dT:oT.data= .fields ([head,.ref L,.none,rawInt L,.none]++(if pl.isEmpty then List.replicate 6 Value.none else pl)).toArray:=by subst hT;rfl
 refine wpAny_setField gT3 dT three (h _ ?_);have up:∀b o,b≠a->g.get? b=some o->(((g.push oT).update a (Obj.mapFields (·.setIfInBounds 1 (Value.ref g.objs.size)))).update g.objs.size (Obj.mapFields (·.setIfInBounds 3 ((none:Option Addr).elim Value.none λf=>rawInt f)))).get? b=some o:=λb o hb e=>by
  rw[aL _ _ (Nat.ne_of_gt (ay e)),aL _ _ (Ne.symm hb)];exact ae _ e
 refine⟨λb o e hb hba=>?_,λb o e hba=>?_,oe,vs,vs'.setIfInBounds 1 (Value.ref g.objs.size),e0,hd,?_,by simpa using hz,.inr ⟨g.objs.size,_,_,by simp [hz],?_,bM _ gT3 (Obj.isFreed_of_fields (Obj.data_mapFields dT _)),Obj.data_mapFields dT _,?_⟩⟩
 .exact up b o hba ((hs.2.1 b λm=>hb (hin b m)).trans (h1 b o e hb hba))
 .obtain⟨sl,q⟩:=h2 b o e hba
  obtain⟨sl2,q2⟩:=hs.2.2 b _ q;exact⟨sl2,up b _ hba q2⟩
 .rw[aL _ _ ne,g3];rfl
 .cases q:hm.get? g.objs.size with
  |none=>rfl
  |some o=>
   by_cases z:g.objs.size=a
   .exact absurd z ne
   .obtain⟨sl,q1⟩:=h2 _ _ q z
    obtain⟨sl2,q2⟩:=hs.2.2 _ _ q1;exact absurd (ay q2) (bD _)
 .rw[Array.getElem?_setIfInBounds_self_of_lt three];rfl
theorem zB{M:Model}{A:Around}{E:Value->Shared->Prop}{s:Shared}{base:Heap}{env:Env}{L a:Addr}{Q:Unit->Shared->Prop}
  (hfr:A.frames=some (env::outer)) (hl:hm.FunFrames base (env::outer)) (hf:env.frame=some L) (hin:∀b∈(env::outer).filterMap (·.frame),b∈fs)
  (F:EO hm fs a s.heap) (h:∀h',EO hm fs a h'->Q Unit.unit {s with heap:=h'}):wpAny M A (leaving env (.ref a)) Q E s:=by
 obtain⟨h1,h2,oe,vs,vs',e0,hd,e1,hz,hT⟩:=F;unfold leaving noteFrame;simp only[hf];rcases hT with h3 | ⟨T,oT,ts,h3,hn,eT,dT,h4⟩
 .refine aa (aa (cD e1 rfl h3 ?_))
  rw[if_neg ()];exact m8 hfr hl hf hin h1 h2 e0 hd e1 hz h
 .refine aa (aa (cD e1 rfl h3 ?_))
  rw[if_pos (show(Value.ref T != Value.none)=true from by simp)];refine aa (cD eT dT h4 ?_);rw[if_neg (show¬((Value.none==rawInt L)=true) from by simp [rawInt])];refine aa (wpAny_setField eT dT (bT.mp h4).1 ?_);have ne:∀b o,hm.get? b=some o->T≠b:=λb o e z=>by subst z;rw[hn] at e;cases e
  refine m8 (vs':=vs') hfr hl hf hin (λb o e m hb=>?_) (λb o e hb=>?_) e0 hd ?_ hz h
  .exact(aL _ _ (ne b o e)).trans (h1 b o e m hb)
  .obtain⟨sl,q⟩:=h2 b o e hb
   exact⟨sl,(aL _ _ (ne b o e)).trans q⟩
  .exact(aL _ _ (ne a oe e0)).trans e1
end
structure iZ(h₀:Heap)(l:List Env)(A:Around)(ρ:List Addr)(σ:List O)(h:Heap):Prop where
 fr:A.frames=some l
 ff:h.FunFrames h₀ l
 ap:∀L∈l.filterMap (·.frame),L∈dA ρ σ->∃i m,nth ρ i=some L/\nth σ i=some (.frame m)
theorem i8{h h' base:Heap}:∀{l:List Env},(∀L∈l.filterMap (·.frame),∀o,h.get? L=some o->(∀vs,o.data≠ .fields vs)->∃o',h'.get? L=some o'/\∀vs,o'.data≠ .fields vs)->h.FunFrames base l->h'.FunFrames base l
 |[],_,_=>trivial
 |env::r,k,zh2=>by
  obtain⟨hk,⟨L,o,hf,hn,ho,hd⟩,hr⟩:=zh2;have mem:∀L∈r.filterMap (·.frame),L∈(env::r).filterMap (·.frame):=λL m=>by
   rw[a8,hf];exact .tail _ m
  obtain⟨o',h1,h2⟩:=k L (by rw[a8,hf];exact .head _) o ho hd;exact⟨hk,⟨L,o',hf,hn,h1,h2⟩,i8 (λL m=>k L (mem L m)) hr⟩
section
variable{c:Cx} {l:List Env} {ρ ρ':List Addr} {σ σ':List O} {s s':Shared}
theorem iZ.res{A:Around}(F:iZ c.h₀ l A ρ σ s.heap)(r:c.Rs ρ σ s ρ' σ' s'):iZ c.h₀ l A ρ' σ' s'.heap:=by
 have key:∀L∈l.filterMap (·.frame),L∈dA ρ σ->∃i m,nth ρ' i=some L/\nth σ' i=some (.frame m):=λL m q=>by
  obtain⟨i,b,e1,e2⟩:=F.ap L m q;obtain⟨b',e3⟩:=r.frm i b e2;exact⟨i,b',r.grow _ _ e1,e3⟩
 refine⟨F.fr,i8 (λL m o e hn=>?_) F.ff,λL m q=>?_⟩
 .by_cases q:L∈dA ρ σ
  .obtain⟨i,b,e1,e2⟩:=key L m q
   obtain⟨m',⟨o',es,ep,ho,hd,_⟩,_⟩:=r.rel.at e1 e2;exact⟨o',ho,λvs z=>by rw[hd] at z;injection z⟩
  .exact⟨o,r.keep L o e q,hn⟩
 .by_cases z:L∈dA ρ σ
  .exact key L m z
  .obtain⟨_,o,e,_⟩:=F.ff.mem m
   rcases r.fresh L q with y | y
   .exact absurd y z
   .rw[e] at y;injection y
theorem iZ.push{A:Around}{h h':Heap}{env:Env}{b:List (Nm×V)}(F:iZ c.h₀ l A ρ σ h)(R':c.R (ρ++[env.locals]) (σ++[.frame b]) h')(hf:env.frame=some env.locals)(hk:env.scope.kind= .function)(hlen:ρ.length=σ.length)
  (kp:∀b o,h.get? b=some o->h'.get? b=some o) (hn:h.get? env.locals=none):iZ c.h₀ (env::l) (A.deeper env) (ρ++[env.locals]) (σ++[.frame b]) h':=by
 have e1:nth (ρ++[env.locals]) ρ.length=some env.locals:=gr _ _;have e2:nth (σ++[.frame b]) ρ.length=some (.frame b):=by rw[hlen];exact gr _ _
 obtain⟨m',⟨o',es,ep,ho,hd,_⟩,_⟩:=R'.at e1 e2;refine⟨Around.frames_deeper F.fr,⟨by rw[hk];decide,⟨_,o',hf,R'.new _ (dC.mpr ⟨_,_,_,e1,e2,.head _⟩),ho,λvs z=>by rw[hd] at z;injection z⟩,i8 (λL I o e hn=>⟨o,kp L o e,hn⟩) F.ff⟩,λL m q=>?_⟩;rw[a8,hf] at m;rcases aD.mp m with rfl | m
 .exact⟨_,_,e1,e2⟩
 .rcases(mJ env.locals (.frame b) hlen L).mp q with q | q
  .obtain⟨i,b',e1,e2⟩:=F.ap L m q
   exact⟨i,b',jF _ e1,jF _ e2⟩
  .cases aj.mp q
   obtain⟨_,o,e,_⟩:=F.ff.mem m;rw[hn] at e;injection e
abbrev eZ:=Heap->List Addr->Addr->Prop
def d9(c:Cx)(EI:eZ)(l:List Env)(ρ:List Addr)(σ:List O)(s:Shared)(σ':List O)(ρ':List Addr)(a:Addr)(s':Shared):Prop:=
 ∃sm fs,c.Rs ρ σ s ρ' σ' sm/\EO sm.heap fs a s'.heap/\EI sm.heap fs a/\(∀b∈l.filterMap (·.frame),b∈fs)/\sm.heap.FunFrames c.h₀ l/\
  (∀b∈fs,b∈dA ρ' σ'->∃i m,nth ρ' i=some b/\nth σ' i=some (.frame m))/\a∉dA ρ' σ'/\(s'.gens=sm.gens/\s'.os=sm.os)/\
  (∀b∈fs,b∈l.filterMap (·.frame)\/s.heap.get? b=none\/b∈dA ρ σ)/\(s.heap.get? a=none\/a∈dA ρ σ)
theorem wH{ρ9:List Addr}{σ0:List O}{s₀:Shared}(r:c.Rs ρ9 σ0 s₀ ρ σ s){b:Addr}(h:s.heap.get? b=none\/b∈dA ρ σ):s₀.heap.get? b=none\/b∈dA ρ9 σ0:=by
 rcases h with h | h
 .by_cases m:b∈dA ρ9 σ0
  .exact .inr m
  .cases e:s₀.heap.get? b with
   |none=>exact .inl rfl
   |some o=>have:=r.keep b o e m;rw[h] at this;injection this
 .exact(r.fresh b h).symm
theorem d9.after{EI:eZ}{ρ9:List Addr}{σ0:List O}{s₀:Shared}{a:Addr}(r:c.Rs ρ9 σ0 s₀ ρ σ s)(x:d9 c EI l ρ σ s σ' ρ' a s'):d9 c EI l ρ9 σ0 s₀ σ' ρ' a s':=by
 obtain⟨sm,fs,h1,h2,h3,h4,h5,h6,h7,h8,h9,h10⟩:=x;exact⟨sm,fs,r.trans h1,h2,h3,h4,h5,h6,h7,h8,λb m=>(h9 b m).imp id (wH (c:=c) r),wH (c:=c) r h10⟩
theorem d9.leave{EI:eZ}{A:Around}{env:Env}{L:Addr}{a:Addr}{E:Value->Shared->Prop}{Q:Unit->Shared->Prop}(x:d9 c EI (env::l) ρ σ s σ' ρ' a s')
  (hfr:A.frames=some (env::l)) (hf:env.frame=some L) (hL:s.heap.get? L=none\/L∈dA ρ σ) (q:∀s'',d9 c EI l ρ σ s σ' ρ' a s''->Q Unit.unit s''):wpAny c.M A (leaving env (.ref a)) Q E s':=by
 obtain⟨sm,fs,h1,h2,h3,h4,h5,h6,h7,h8,h9,h10⟩:=x;refine zB hfr h5 hf h4 h2 λh' F=>q _ ⟨sm,fs,h1,F,h3,λb m=>h4 b ?_,h5.2.2,h6,h7,h8,λb m=>?_,h10⟩
 .rw[a8,hf];exact .tail _ m
 .rcases h9 b m with z | z
  .rw[a8,hf] at z
   rcases aD.mp z with rfl | z
   .exact .inr hL
   .exact .inl z
  .exact .inr z
structure Rv where
 c:Nat->List V->St->Option St
 ss:List MS->Nat->St->Option St
structure sr where
 orc:Nat->Bool
 spec:Nat->List V->List O->List O->Prop
 specL:MS->Nat->List O->List O->Prop
def HQ(P:tR)(e:ME->Nat->St->Option (V×St))(fi:Nat)(f:ME)(as:List ME)(st:St):Option ((Nat×List V)×St):=
 ob (e f fi st) λg st=>match g with
  | .val x=>match x with
   | .ref a=>od (P.cls a) (λI=>none) (ob (GG e fi as st) λvs st=>some ((a,vs),st))
   |_=>none
  |_=>none
def rE(P:tR)(ev:Ev)(ih:Rv)(m:ME)(fi:Nat)(st:St):Option St:=match m with
 | .call f as=>ob (HQ P ev.e fi f as st) λq st=>ih.c q.1 q.2 st
 | .meth o n as=>ob (DB P ev.e fi o n as st) λq st=>ih.c q.1 q.2 st
 |_=>none
def J4(st:St)(f:List O->List Ch->Option St):Option St:=match st.ch with
 |[]=>none
 |h::r=>match h with
  | .r os=>f os r
  |_=>none
def rX(P:tR)(_R:sr)(ev:Ev)(ih:Rv)(x:MS)(fi:Nat)(st:St):Option St:=match x with
 | .expr e=>rE P ev ih e fi st
 | .asg _ e=>rE P ev ih e fi st
 | .asgT _ e=>rE P ev ih e fi st
 | .ret e=>on e λe=>rE P ev ih e fi st
 | .ite t a b=>ob (ev.t t fi st) λk st=>oi k (ih.ss a fi st) (ih.ss b fi st)
 | .while t b=>J4 st λos r=>some ⟨os,r,_R.specL (.while t b) fi st.os os::st.cs⟩
 | .for n it b=>J4 st λos r=>some ⟨os,r,_R.specL (.for n it b) fi st.os os::st.cs⟩
 |_=>none
def M1(P:tR)(R:sr)(ev:Ev)(ih:Rv)(l:List MS)(fi:Nat)(st:St):Option St:=match l with
 |[]=>none
 |x::r=>od (rX P R ev ih x fi st) some (ob (ju P ev x fi st) λf st=>match f with
  | .next=>ih.ss r fi st
  |_=>none)
def rC(P:tR)(R:sr)(ih:Rv)(f:Nat)(as:List V)(st:St):Option St:=oi (R.orc f)
 (J4 st λos r=>some ⟨os,r,R.spec f as st.os os::st.cs⟩)
 (on (P.fn f) λq=>on (pZ q.1 as) λb=>ih.ss q.2 st.os.length ⟨st.os++[.frame b],st.ch,st.cs⟩)
theorem rB{α β:Type}{o:Option (α×St)}{f:α->St->Option β}{b:β}(h:ob o f=some b):∃a s,o=some (a,s)/\f a s=some b:=match o,h with
 |some (a,s),h=>⟨a,s,rfl,h⟩
theorem w5{st C':St}{f:List O->List Ch->Option St}(h:J4 st f=some C'):∃os r,f os r=some C':=by
 obtain⟨os,ch,cs⟩:=st;cases ch with
 |nil=>exact nomatch h
 |cons x r=>cases x with
  |r os=>exact⟨os,r,h⟩
  |_=>exact nomatch h
def tP(P:tR)(R:sr):Nat->Rv
 |0=>⟨λI I I=>none,λI I I=>none⟩
 |n+1=>⟨rC P R (tP P R n),M1 P R (ev P n) (tP P R n)⟩
end
section
variable(c:Cx) (EI:eZ)
def AN(n:Nat)(m:ME)(fi:Nat)(os H':List O):Prop:=
 ∀(A:Around) (env:Env) (x:Expr) (s:Shared) (ρ:List Addr) (l:List Env) (Q E:Value->Shared->Prop),ee A (n+c.P.room)->dE env fi ρ->dO c.nm env.scope m x->c.R ρ os s.heap->e9 c ρ->iZ c.h₀ l A ρ os s.heap->
  (∀ρ' s' a,d9 c EI l ρ os s H' ρ' a s'->E (.ref a) s')->wpAny c.M A (eval x env) Q E s
def JO(n:Nat)(f:ME->Nat->St->Option St):Prop:=∀m fi st C',f m fi st=some C'->All C'.cs->All st.cs/\AN c EI n m fi st.os C'.os
def GI(n:Nat)(m:MS)(fi:Nat)(os H':List O):Prop:=
 ∀(A:Around) (env:Env) (x:Stmt) (s:Shared) (ρ:List Addr) (l:List Env) (Q:Flow->Shared->Prop) (E:Value->Shared->Prop),ee A (n+c.P.room)->dE env fi ρ->gI c.nm env.scope m x->c.R ρ os s.heap->e9 c ρ->iZ c.h₀ l A ρ os s.heap->PassesOwn c.M A env E->
  (∀ρ' s' a,d9 c EI l ρ os s H' ρ' a s'->E (.ref a) s')->wpAny c.M A (exec x env) Q E s
def EB(n:Nat)(f:MS->Nat->St->Option St):Prop:=∀m fi st C',f m fi st=some C'->All C'.cs->All st.cs/\GI c EI n m fi st.os C'.os
def CZ(n:Nat)(m:List MS)(fi:Nat)(os H':List O):Prop:=
 ∀(A:Around) (env:Env) (x:List Stmt) (s:Shared) (ρ:List Addr) (l:List Env) (Q:Flow->Shared->Prop) (E:Value->Shared->Prop),ee A (n+c.P.room)->dE env fi ρ->iT c.nm env.scope m x->c.R ρ os s.heap->e9 c ρ->iZ c.h₀ l A ρ os s.heap->PassesOwn c.M A env E->
  (∀ρ' s' a,d9 c EI l ρ os s H' ρ' a s'->E (.ref a) s')->wpAny c.M A (execs x env) Q E s
def pB(n:Nat)(f:List MS->Nat->St->Option St):Prop:=∀m fi st C',f m fi st=some C'->All C'.cs->All st.cs/\CZ c EI n m fi st.os C'.os
def eU(f:Nat)(vs:List V)(os H':List O):Prop:=
 ∀(A:Around) (xs:List Value) (s:Shared) (ρ:List Addr) (l:List Env) (E:Value->Shared->Prop),ee A c.P.room->c.R ρ os s.heap->e9 c ρ->iZ c.h₀ l A ρ os s.heap->dy ρ s.heap vs xs->
  (∀ρ' s' a,d9 c EI l ρ os s H' ρ' a s'->E (.ref a) s')->codeAny c.M A (.call (.ref f) ⟨xs,[]⟩) (λr s'=>match r with | .ok _=>False | .error e=>E e s') s
def ma(m:MS)(fi:Nat)(os H':List O):Prop:=
 ∀(A:Around) (env:Env) (x:Stmt) (s:Shared) (ρ:List Addr) (l:List Env) (Q:Flow->Shared->Prop) (E:Value->Shared->Prop),ee A c.P.room->dE env fi ρ->gI c.nm env.scope m x->c.R ρ os s.heap->e9 c ρ->iZ c.h₀ l A ρ os s.heap->PassesOwn c.M A env E->
  (∀ρ' s' a,d9 c EI l ρ os s H' ρ' a s'->E (.ref a) s')->wpAny c.M A (exec x env) Q E s
def G2(n:Nat)(a:Nat)(vs:List V)(os H':List O):Prop:=
 ∀(A:Around) (xs:List Value) (s:Shared) (ρ:List Addr) (l:List Env) (E:Value->Shared->Prop),ee A (n+c.P.room)->c.R ρ os s.heap->e9 c ρ->iZ c.h₀ l A ρ os s.heap->dy ρ s.heap vs xs->
  (∀ρ' s' a,d9 c EI l ρ os s H' ρ' a s'->E (.ref a) s')->codeAny c.M A (.call (.ref a) ⟨xs,[]⟩) (λr s'=>match r with | .ok _=>False | .error e=>E e s') s
def u4(n:Nat)(f:Nat->List V->St->Option St):Prop:=∀a vs st C',f a vs st=some C'->All C'.cs->All st.cs/\keepIn c.K (.ref a)=true/\G2 c EI n a vs st.os C'.os
structure Af(R:sr):Prop where
 spec:∀f vs os H',R.spec f vs os H'->eU c EI f vs os H'
 specK:∀f,R.orc f=true->keepIn c.K (.ref f)=true
 specL:∀m fi os H',R.specL m fi os H'->ma c EI m fi os H'
end
theorem yw{R':Result->Shared->Prop}{E:Value->Shared->Prop}{Q:Value->Shared->Prop}{M:Model}{A:Around}{cd:Code}{s:Shared}
  (h:codeAny M A cd (λr s'=>match r with | .ok _=>False | .error e=>E e s') s):codeAny M A cd (λr s'=>match r with | .ok (.ret v)=>Q v s' | .ok _=>False | .error e=>E e s') s:=
 codeAny_mono h λr s' z=>by
  rcases r with e | fl
  .exact z
  .exact z.elim
theorem Jv{c:Cx}{n:Nat}(X:c.Ok){e:ME->Nat->St->Option (V×St)}(He:SE c n e){fi:Nat}{f:ME}{as:List ME}{st:St}:oP (HQ c.P e fi f as st) (K0 st (LO c n (.call f as) fi st.os)):=
 sq (He.o f fi st) λg st1=>by
  cases g with
  |val x=>cases x with
   |ref a=>
    refine LQ (λI I=>trivial) λI=>sq (j7 He as st1) λvs st2=>nX λk2 l2 A env x s ρ Q E rm en ck R0 ad kf h=>?_;obtain⟨f',as',p,rfl,hn,c1,c2⟩:=mF _ _ ck;obtain⟨id,np,rfl⟩:∃id np,f'= .Name id np:=by
     cases f'<;>first | exact⟨_,_,rfl⟩ | injection hn
    refine bH (l2 A env _ s ρ _ _ rm en c1 R0 ad λρ1 s1 y1 r1 v1=>?_);obtain⟨rfl,_⟩:=v1;refine callWith_of (P:=λh=>c.K.In h) (by rw[fW c2];rfl) (keeps_K kf) (gq c2 ?_);exact k2 A env p as' s1 ρ1 _ _ rm (en.grow r1.grow) c2 r1.rel (eE.trans ad r1.grow) λρ2 s2 ys r2 v2=>⟨X.In r2.rel,cR (h ρ2 s2 ys (r1.trans r2) v2)⟩
   |_=>exact N4
  |_=>exact N4
theorem pL{c:Cx}{EI:eZ}{ih:Rv}{ev:Ev}{n:Nat}(X:c.Ok)(He:SE c n ev.e)(Hc:u4 c EI n ih.c):JO c EI (n+1) (rE c.P ev ih):=by
 intro m fi st C' h hc;have fin:∀{q st2},K0 st (LO c n m fi st.os) q st2->ih.c q.1 q.2 st2=some C'->All st.cs/\AN c EI (n+1) m fi st.os C'.os:=λk h=>by
  obtain⟨j1,j0,j2⟩:=Hc _ _ _ _ h hc;exact⟨(k j1).1,λA env x s ρ l Q E rm en ck R0 ad fr q=>(k j1).2 A env x s ρ Q E (iQ rm) en ck R0 ad j0 λρ2 s2 ys r2 v2=>yw (R':=λI I=>True) (j2 A ys s2 ρ2 l E (iQ rm) r2.rel (eE.trans ad r2.grow) (fr.res r2) v2 λρ3 s3 a x=>q ρ3 s3 a (x.after r2))⟩
 cases m with
 |call f as=>
  obtain⟨q,st2,e1,h⟩:=rB h;exact fin ((Jv X He).out e1) h
 |meth o nn as=>
  obtain⟨q,st2,e1,h⟩:=rB h;exact fin ((CH X He).out e1) h
 |_=>exact nomatch(show none=some _ from h)
nonrec theorem FU{c:Cx}{EI:eZ}{R:sr}{ih:Rv}{ev:Ev}{n:Nat}(X:c.Ok)(Y:Af c EI R)(He:SE c n ev.e)(Ht:ST c n ev.t)(Hc:u4 c EI n ih.c)(Hs:pB c EI n ih.ss):EB c EI (n+1) (rX c.P R ev ih):=by
 intro m fi st C' h hc;have loop:∀{m},(J4 st λos r=>some ⟨os,r,R.specL m fi st.os os::st.cs⟩)=some C'->All st.cs/\ma c EI m fi st.os C'.os:=λ{m} h=>by
  obtain⟨os,r,h⟩:=w5 h;cases h;exact⟨hc.tail,Y.specL m _ _ _ hc.head⟩
 cases m with
 |expr e=>
  obtain⟨k1,k2⟩:=pL X He Hc _ _ _ _ h hc;refine⟨k1,λA env x s ρ l Q E rm en ck R0 ad fr pe q=>?_⟩;obtain⟨v',p,rfl,hn,c1⟩:=xq _ _ ck;exact wpAny_Expr (k2 A env v' s ρ l _ E rm en c1 R0 ad fr q) (by unfold interactive;rw[en.kind];rfl) (gy hn _ _ _)
 |asg nn e=>
  obtain⟨k1,k2⟩:=pL X He Hc _ _ _ _ h hc;refine⟨k1,λA env x s ρ l Q E rm en ck R0 ad fr pe q=>?_⟩;obtain⟨p,v',p',rfl,hl,hn,c1⟩:=uN _ _ ck;exact cA (k2 A env v' s ρ l _ E rm en c1 R0 ad fr q) (gy hn _ _ _)
 |asgT ns e=>
  obtain⟨k1,k2⟩:=pL X He Hc _ _ _ _ h hc;refine⟨k1,λA env x s ρ l Q E rm en ck R0 ad fr pe q=>?_⟩;obtain⟨ts,k,p,v',p',rfl,hns,hn,hnt,c1⟩:=rM _ _ ck;exact cC (k2 A env v' s ρ l _ E rm en c1 R0 ad fr q) (m6 hn _ _ _) (ky hnt _)
 |ret e=>
  obtain⟨e,rfl,h⟩:=o0 h;obtain⟨k1,k2⟩:=pL X He Hc _ _ _ _ h hc;refine⟨k1,λA env x s ρ l Q E rm en ck R0 ad fr pe q=>?_⟩;obtain⟨v',p,rfl,c1⟩:=vq _ _ ck;obtain⟨y,rfl,c1⟩:=pX _ _ c1;exact wpAny_Return_some (k2 A env y s ρ l _ E rm en c1 R0 ad fr q)
 |ite t a b=>
  obtain⟨k,st1,e1,h⟩:=rB h;cases k with
  |true=>
   obtain⟨j1,j2⟩:=Hs _ _ _ _ h hc;obtain⟨k1,k2⟩:=Ht _ _ _ _ _ e1 j1;refine⟨k1,λA env x s ρ l Q E rm en ck R0 ad fr pe q=>?_⟩;obtain⟨t',a',b',p,rfl,c1,c2,c3⟩:=pj _ _ ck;exact wpAny_If (k2 A env t' s ρ _ _ (iQ rm) en c1 R0 ad λρ1 s1 r1=>j2 A env a' s1 ρ1 l Q E (iQ rm) (en.grow r1.grow) c2 r1.rel (eE.trans ad r1.grow) (fr.res r1) pe λρ2 s2 a x=>q ρ2 s2 a (x.after r1))
  |false=>
   obtain⟨j1,j2⟩:=Hs _ _ _ _ h hc;obtain⟨k1,k2⟩:=Ht _ _ _ _ _ e1 j1;refine⟨k1,λA env x s ρ l Q E rm en ck R0 ad fr pe q=>?_⟩;obtain⟨t',a',b',p,rfl,c1,c2,c3⟩:=pj _ _ ck;exact wpAny_If (k2 A env t' s ρ _ _ (iQ rm) en c1 R0 ad λρ1 s1 r1=>j2 A env b' s1 ρ1 l Q E (iQ rm) (en.grow r1.grow) c3 r1.rel (eE.trans ad r1.grow) (fr.res r1) pe λρ2 s2 a x=>q ρ2 s2 a (x.after r1))
 |«while» t b=>
  obtain⟨k1,k2⟩:=loop h;exact⟨k1,λA env x s ρ l Q E rm en ck R0 ad fr pe q=>k2 A env x s ρ l Q E (rm.less (by omega)) en ck R0 ad fr pe q⟩
 |«for» nn it b=>
  obtain⟨k1,k2⟩:=loop h;exact⟨k1,λA env x s ρ l Q E rm en ck R0 ad fr pe q=>k2 A env x s ρ l Q E (rm.less (by omega)) en ck R0 ad fr pe q⟩
 |_=>exact nomatch(show none=some _ from h)
nonrec theorem Ey{c:Cx}{EI:eZ}{R:sr}{ih:Rv}{ev:Ev}{n:Nat}(HX:SX c (n+1) (ju c.P ev))(HR:EB c EI (n+1) (rX c.P R ev ih))(Hs:pB c EI n ih.ss):pB c EI (n+1) (M1 c.P R ev ih):=by
 intro m fi st C' h hc;cases m with
 |nil=>exact nomatch(show none=some _ from h)
 |cons x r=>
  have h:od (rX c.P R ev ih x fi st) some (ob (ju c.P ev x fi st) λf st=>match f with
   | .next=>ih.ss r fi st
   |_=>none)=some C':=h
  cases e1:rX c.P R ev ih x fi st with
  |some st1=>
   rw[e1] at h;obtain rfl:=ac (show some st1=some C' from h);obtain⟨k1,k2⟩:=HR _ _ _ _ e1 hc;refine⟨k1,λA env xs s ρ l Q E rm en ck R0 ad fr pe q=>?_⟩;obtain⟨y,ys,rfl,c1,c2⟩:=gZ _ _ ck;exact ak (k2 A env y s ρ l _ E rm en c1 R0 ad fr pe q)
  |none=>
   rw[e1] at h;obtain⟨f,st1,e1,h⟩:=rB (show ob (ju c.P ev x fi st) _=some C' from h);cases f with
   |next=>
    obtain⟨j1,j2⟩:=Hs _ _ _ _ h hc;obtain⟨k1,k2⟩:=HX _ _ _ _ _ e1 j1;refine⟨k1,λA env xs s ρ l Q E rm en ck R0 ad fr pe q=>?_⟩;obtain⟨y,ys,rfl,c1,c2⟩:=gZ _ _ ck;refine ak (k2 A env y s ρ _ E rm en c1 R0 ad λρ1 s1 N1 r1 v1=>?_);obtain rfl:=v1;exact j2 A env ys s1 ρ1 l Q E (iQ rm) (en.grow r1.grow) c2 r1.rel (eE.trans ad r1.grow) (fr.res r1) pe λρ2 s2 a x=>q ρ2 s2 a (x.after r1)
   |_=>exact nomatch(show none=some _ from h)
theorem Gs{c:Cx}{EI:eZ}{R:sr}{ih:Rv}{n:Nat}(X:c.Ok)(Y:c.More)(Z:Af c EI R)(Hs:pB c EI n ih.ss):u4 c EI (n+1) (rC c.P R ih):=by
 intro f vs st C' h hc;have h:oi (R.orc f) (J4 st λos r=>some ⟨os,r,R.spec f vs st.os os::st.cs⟩) (on (c.P.fn f) λq=>on (pZ q.1 vs) λb=>ih.ss q.2 st.os.length ⟨st.os++[.frame b],st.ch,st.cs⟩)=some C':=h;cases eo:R.orc f with
 |true=>
  rw[eo] at h;obtain⟨os,r,h⟩:=w5 h;cases h;exact⟨hc.tail,Z.specK _ eo,λA xs s ρ l E rm R0 ad fr vr q=>Z.spec _ _ _ _ hc.head A xs s ρ l E (rm.less (by omega)) R0 ad fr vr q⟩
 |false=>
  rw[eo] at h;obtain⟨pb,ef,h⟩:=o0 h;obtain⟨b,eb,h⟩:=o0 h;obtain⟨fd,bd,K⟩:=Y.fn _ _ _ ef;obtain⟨k1,k2⟩:=Hs _ _ _ _ h hc;refine⟨k1,AM K,λA xs s ρ l E rm R0 ad fr vr q=>xm X K eb rm R0 vr λh₀ t kp r0 en rm'=>?_⟩;have fr':iZ c.h₀ (callEnv fd s.heap.objs.size f::l) (A.deeper (callEnv fd s.heap.objs.size f)) (ρ++[s.heap.objs.size]) (st.os++[.frame b]) h₀:=fr.push (env:=callEnv fd s.heap.objs.size f) r0.rel rfl K.kind R0.len kp (fA s);exact k2 (A.deeper _) _ bd _ _ (callEnv fd s.heap.objs.size f::l) _ _ rm' en K.chk r0.rel (eE.trans ad r0.grow) fr' PassesOwn.leaving λρ1 s1 a x=>(x.after r0).leave fr'.fr rfl (.inl (fA s)) λs2 x2=>q ρ1 s2 a x2
theorem nh{c:Cx}{EI:eZ}{R:sr}(X:c.Ok)(Y:c.More)(Z:Af c EI R):∀n,u4 c EI n (tP c.P R n).c/\pB c EI n (tP c.P R n).ss
 |0=>⟨λI I I I h=>absurd (show none=some _ from h) (by simp),λI I I I h=>absurd (show none=some _ from h) (by simp)⟩
 |n+1=>
  let⟨he,ht,hs,_⟩:=gR X Y n
  let⟨rc,rs⟩:=nh X Y Z n
  ⟨Gs X Y Z rs,Ey (vl X Y he ht hs) (FU X Z he ht rc rs) rs⟩
section
set_option tactic.hygienic true
def jx:List Prop->Prop
 |[]=>True
 |p::l=>p/\jx l
theorem gj:∀{l:List Prop},jx l->All l
 |[],_=>λI m=>by cases m
 |p::l,h=>λq m=>by
  rcases aD.mp m with rfl | m
  .exact h.1
  .exact gj h.2 q m
def dg(c:Cx)(k:Nat)(g:Nat->Option Nat)(σ:List O)(J:List O->Prop):Prop:=
 ∀ρ h,c.R ρ σ h->∃ρ' σ',J σ'/\c.R ρ' σ' h/\(∀x∈dA ρ' σ',x∈dA ρ σ)/\(∀i a,i<k->nth ρ i=some a->nth ρ' i=some a)/\
  (∀i j,g i=some j->∀a,nth ρ i=some a->nth ρ' j=some a)/\(∀i m,i<k->nth σ i=some (.frame m)->∃m',nth σ' i=some (.frame m'))/\
  (∀x∈dA ρ' σ',∀i m,nth ρ i=some x->nth σ i=some (.frame m)->∃j m',nth ρ' j=some x/\nth σ' j=some (.frame m'))
theorem dg.mono{c:Cx}{k k':Nat}{g:Nat->Option Nat}{σ:List O}{J J':List O->Prop}(T:dg c k g σ J)(hk:k'<=k)(h:∀σ',J σ'->J' σ'):dg c k' g σ J':=λρ hp R=>by
 obtain⟨ρ',σ',a1,a2,a3,a4,a5,a6,a7⟩:=T ρ hp R;exact⟨ρ',σ',h _ a1,a2,a3,λi a l=>a4 i a (aH l hk),a5,λi m l=>a6 i m (aH l hk),a7⟩
theorem dg.id{c:Cx}{k:Nat}{σ:List O}{J:List O->Prop}(h:J σ):dg c k some σ J:=λρ hp R=>
 ⟨ρ,σ,h,R,λI m=>m,λI I I e=>e,λi j e a q=>by cases e;exact q,λI m I e=>⟨m,e⟩,λx I i m e1 e2=>⟨i,m,e1,e2⟩⟩
def fb:List Nat->Nat->Option Nat
 |[],_=>none
 |a::l,i=>match Nat.beq a i with
  |true=>some 0
  |false=>match fb l i with
   |some j=>some (j+1)
   |none=>none
theorem Aq:∀{l:List Nat} {i j:Nat},fb l i=some j->nth l j=some i
 |[],_,_,h=>by cases h
 |a::l,i,j,h=>by
  have h:(match Nat.beq a i with | true=>some 0 | false=>match fb l i with | some j=>some (j+1) | none=>none)=some j:=h;cases e:Nat.beq a i with
  |true=>
   rw[e] at h;obtain rfl:=ac h;exact az some (aP e)
  |false=>
   rw[e] at h;cases z:fb l i with
   |some k=>
    rw[z] at h;obtain rfl:=ac h;exact Aq (l:=l) z
   |none=>rw[z] at h;cases h
def ROs(f:Nat->Option Nat):List O->List O->Prop
 |[],l=>l=[]
 |o::os,l=>∃o' r,l=o'::r/\RO f o o'/\ROs f os r
theorem ROs.len{f:Nat->Option Nat}:∀{a b:List O},ROs f a b->b.length=a.length
 |[],_,e=>by cases e;rfl
 |_::_,_,zh2=>by
  obtain⟨_,_,e,_,r⟩:=zh2;subst e;exact az (·+1) r.len
theorem ROs.at{f:Nat->Option Nat}:∀{a b:List O} {j:Nat} {o:O},ROs f a b->nth a j=some o->∃o',nth b j=some o'/\RO f o o'
 |[],_,_,_,_,e=>by cases e
 |x::a,_,0,_,zh4,h=>by
  obtain⟨o',r,e,q,_⟩:=zh4;subst e;cases h;exact⟨o',rfl,q⟩
 |x::a,_,j+1,_,zh4,h=>by
  obtain⟨o',r,e,_,q⟩:=zh4;subst e;exact ROs.at (a:=a) (j:=j) q h
theorem jE{α β:Type}(f:α->β):∀{l:List α} {j:Nat},nth (l.map f) j=(nth l j).map f
 |[],_=>rfl
 |a::l,0=>rfl
 |a::l,j+1=>jE f (l:=l) (j:=j)
theorem Ha{l:List Nat}(h:l.Nodup):∀{i j k:Nat},nth l i=some k->nth l j=some k->i=j:=λ{i j k} e1 e2=>by
 rw[dP] at e1 e2;obtain⟨h1,e1⟩:=List.getElem?_eq_some_iff.mp e1;obtain⟨h2,e2⟩:=List.getElem?_eq_some_iff.mp e2;have p:=List.pairwise_iff_getElem.mp h;rcases Nat.lt_trichotomy i j with z | z | z
 .exact absurd (e1.trans e2.symm) (p i j h1 h2 z)
 .exact z
 .exact absurd (e2.trans e1.symm) (p j i h2 h1 z)
theorem vN{l:List Nat}{σ I' H':List O}(e:l.map (nth σ ·)=I'.map some)(nd:l.Nodup)(R:ROs (fb l) I' H'):MH l (fb l) σ H':=by
 have len:l.length=I'.length:=by have:=az List.length e;simpa using this
 refine⟨by rw[R.len,len],λi j h=>Aq h,λj i h=>?_,λi j k=>Ha nd⟩;have e1:nth (l.map (nth σ ·)) j=some (nth σ i):=by rw[jE,h];rfl
 rw[e,jE] at e1;obtain⟨o,ho,e2⟩:=aq.mp e1;obtain⟨o',e3,q⟩:=R.at ho;exact⟨o,o',e2.symm,e3,q⟩
nonrec theorem AL{c:Cx}{l:List Nat}{σ H':List O}{ρ:List Addr}{h:Heap}(R0:c.R ρ σ h)(S:MH l (fb l) σ H'):∀x∈dA (jv 0 l ρ) H',∀i m,nth ρ i=some x->nth σ i=some (.frame m)->∃j m',nth (jv 0 l ρ) j=some x/\nth H' j=some (.frame m'):=by
 exact(λx hx i m q1 q2=>by
 obtain⟨j,a,o',f1,f2,f3⟩:=dC.mp hx;obtain⟨i',f4,f5⟩:=oz f1;obtain⟨o,o'',g1,g2,y⟩:=S.cell j i' f4;rw[f2] at g2;cases g2;obtain⟨a',ha'⟩:=jK R0.len.symm g1;rw[ha'] at f5;cases f5;have yy:=(y.rep (P:=⟨c.prog,c.w⟩) (nm:=c.nm) (ρ:=ρ) (ρ':=jv 0 l ρ) (h:=h) (λi j q a ha=>by rw[je (S.back i j q),ha];rfl) (R0.at ha' g1)).2;have f3:x∈foot a' o':=f3;rw[yy] at f3
 by_cases z:i=i'
 .subst z
  rw[q1] at ha';cases ha';rw[q2] at g1;cases g1;obtain⟨b',rfl,_⟩:=y;exact⟨j,b',f1,f2⟩
 .exact absurd f3 (R0.apart i i' x a' _ o q1 q2 ha' g1 z x (.head _)))
section
variable{c:Cx} {I' H':List O} {EI:eZ} {r:Nat} {orc:Nat->Bool}
theorem dg.sel{k:Nat}{l:List Nat}{σ:List O}(e:l.map (nth σ ·)=I'.map some)(nd:l.Nodup)(keep:∀i<k,nth l i=some i)(R:ROs (fb l) I' H'):dg c k (fb l) σ (·=H'):=λρ h R0=>by
 have S:=vN e nd R;obtain⟨R1,ft⟩:=R0.sel S;have at_:∀i,i<k->∀a,nth ρ i=some a->nth (jv 0 l ρ) i=some a:=λi hi a ha=>by rw[je (keep i hi),ha];rfl
 refine⟨_,_,rfl,R1,ft,λi a hi ha=>at_ i hi a ha,λi j q a ha=>by rw[je (S.back i j q),ha];rfl,λi m hi q=>?_,AL R0 S⟩;obtain⟨o,o',e2,e3,y⟩:=S.cell i i (keep i hi);rw[q] at e2;cases e2;obtain⟨b',rfl,_⟩:=y;exact⟨b',e3⟩
theorem eR.tell{ρ9 ρ:List Addr}{σ0 σ:List O}{s₀ s:Shared}{g:Nat->Option Nat}{J:List O->Prop}{k:Nat}(r:c.Rs ρ9 σ0 s₀ ρ σ s)(T:dg c k g σ J)(hk:σ0.length<=k)(hlen:ρ9.length=σ0.length):
  ∃ρ' σ',J σ'/\c.Rs ρ9 σ0 s₀ ρ' σ' s/\(∀i j,g i=some j->∀a,nth ρ i=some a->nth ρ' j=some a)/\(∀i a,i<k->nth ρ i=some a->nth ρ' i=some a)/\(∀x∈dA ρ' σ',x∈dA ρ σ)/\
   (∀x∈dA ρ' σ',∀i m,nth ρ i=some x->nth σ i=some (.frame m)->∃j m',nth ρ' j=some x/\nth σ' j=some (.frame m')):=by
 obtain⟨ρ',σ',a1,a2,a3,a4,a5,a6,a7⟩:=T ρ s.heap r.rel;refine⟨ρ',σ',a1,⟨λi a e=>a4 i a ?_ (r.grow i a e),a2,r.keep,λx m=>r.fresh x (a3 x m),r.gens,r.os,λi m e=>?_⟩,a5,a4,a3,a7⟩
 .exact aH (fO e) (by rw[hlen];exact hk)
 .obtain⟨m1,e1⟩:=r.frm i m e
  exact a6 i m1 (aH (fO e) hk) e1
theorem d9.tell{l:List Env}{ρ9 ρ:List Addr}{σ0 σ:List O}{s₀ s:Shared}{a:Addr}{g:Nat->Option Nat}{J:List O->Prop}{k:Nat}(x:d9 c EI l ρ9 σ0 s₀ σ ρ a s)(T:dg c k g σ J)(hk:σ0.length<=k)(hlen:ρ9.length=σ0.length):
  ∃ρ' σ',J σ'/\d9 c EI l ρ9 σ0 s₀ σ' ρ' a s:=by
 obtain⟨sm,fs,h1,h2,h3,h4,h5,h6,h7,h8⟩:=x;obtain⟨ρ',σ',j,r,_,_,ft,fm⟩:=eR.tell h1 T hk hlen;refine⟨ρ',σ',j,sm,fs,r,h2,h3,h4,h5,λb m q=>?_,λq=>h7 (ft a q),h8⟩;obtain⟨i,m',e1,e2⟩:=h6 b m (ft b q);exact fm b q i m' e1 e2
def Cx.at(c:Cx)(r:Nat):Cx:={c with P:={c.P with room:=r}}
def Bx(c:Cx)(r:Nat)(orc:Nat->Bool):Cx:={c with P:={c.P with orc:=orc,room:=r,spec:=fJ (c.at r),specL:=zT (c.at r)}}
def Hh(c:Cx)(r:Nat)(EI:eZ)(orc:Nat->Bool):sr:=⟨orc,eU (c.at r) EI,ma (c.at r) EI⟩
structure pE(c:Cx):Prop where
 fn:∀f ps body,c.P.fn f=some (ps,body)->∃fd b,tW c f ps body fd b
theorem jQ(X:c.Ok):(Bx c r orc).Ok:=⟨X.X,X.g,X.b,X.lim,X.inj,X.glob,X.cls,X.meth,X.fld⟩
theorem gX(F:pE c)(K:∀f,orc f=true->keepIn c.K (.ref f)=true):(Bx c r orc).More:=
 ⟨λf ps body e=>let⟨fd,b,h⟩:=F.fn f ps body e;⟨fd,b,⟨h.at_,h.kind,h.co,h.gen,h.glob,h.blt,h.code,h.cell,h.loc,h.bind,h.nodup,h.fbody,h.chk⟩⟩,λI I I I I h=>h,K,λI I I I I h=>h⟩
theorem qC(orc':Nat->Bool)(K:∀f,orc' f=true->keepIn c.K (.ref f)=true):Af (Bx c r orc) EI (Hh c r EI orc'):=⟨λI I I I h=>h,K,λI I I I h=>h⟩
theorem Hz(X:c.Ok)(F:pE c)(K:∀f,orc f=true->keepIn c.K (.ref f)=true){n f:Nat}{vs:List V}{os:List O}{ch:List Ch}{v1:V}{cs:List Prop}(l:List Nat)
  (h:((ev (Bx c r orc).P n).c f vs ⟨os,ch,[]⟩).map (λq=>(q.1,l.map (nth q.2.os ·),q.2.cs))=some (v1,I'.map some,cs)) (hc:jx cs) (nd:l.Nodup) (keep:∀i<os.length,nth l i=some i)
  {v:V} (S:ROs (fb l) I' H') (rv:RV (fb l) v1 v):fJ (c.at (n+r)) f vs os v H':=by
 obtain⟨⟨v2,C'⟩,e1,e2⟩:=aq.mp h;obtain⟨rfl,e3,rfl⟩:v2=v1/\l.map (nth C'.os ·)=I'.map some/\C'.cs=cs:=by simpa only[bc] using e2
 obtain⟨_,_,k2⟩:=(gR (jQ (r:=r) (orc:=orc) X) (gX F K) n).2.2.2 _ _ _ _ _ e1 (gj hc);have T:=dg.sel (c:=c) e3 nd keep S;refine λA xs s ρ Q E rm R ad vr q=>k2 A xs s ρ Q E rm R ad vr λρ' s' y r1 v1=>?_;obtain⟨ρ2,σ2,rfl,r2,g2,_⟩:=eR.tell (c:=c) r1 T (ao _) R.len;exact q ρ2 s' y r2 (rv.rep g2 v1)
theorem C2(X:c.Ok)(F:pE c)(K:∀f,orc f=true->keepIn c.K (.ref f)=true){orc':Nat->Bool}(K':∀f,orc' f=true->keepIn c.K (.ref f)=true){n f:Nat}{vs:List V}{os:List O}{ch:List Ch}{cs:List Prop}(l:List Nat)
  (h:((tP (Bx c r orc).P (Hh c r EI orc') n).c f vs ⟨os,ch,[]⟩).map (λq=>(l.map (nth q.os ·),q.cs))=some (I'.map some,cs)) (hc:jx cs) (nd:l.Nodup) (keep:∀i<os.length,nth l i=some i)
  (S:ROs (fb l) I' H'):eU (c.at (n+r)) EI f vs os H':=by
 obtain⟨C',e1,e2⟩:=aq.mp h;obtain⟨e3,rfl⟩:l.map (nth C'.os ·)=I'.map some/\C'.cs=cs:=by simpa only[bc] using e2
 obtain⟨_,_,k2⟩:=(nh (EI:=EI) (jQ (r:=r) (orc:=orc) X) (gX F K) (qC orc' K') n).1 _ _ _ _ e1 (gj hc);have T:=dg.sel (c:=c) e3 nd keep S;refine λA xs s ρ l E rm R ad fr vr q=>k2 A xs s ρ l E rm R ad fr vr λρ' s' a x=>?_;obtain⟨ρ2,σ2,rfl,x2⟩:=d9.tell (c:=c) x T (ao _) R.len;exact q ρ2 s' a x2
end
end
inductive qX where
 |lst (i:Nat) (xs:List V)
 |rng (n:Nat)
def qX.len:qX->Nat
 | .lst _ xs=>xs.length
 | .rng n=>n
def qX.at:qX->Nat->Option V
 | .lst _ xs,j=>nth xs j
 | .rng n,j=>if j<n then some (.int true (j:Nat)) else none
def oB:qX->List O->Prop
 | .lst i xs,σ=>∃y,nth σ i=some (.list y xs)
 | .rng n,_=>n<2^60
def jI:qX->Addr->Nat->List Addr->Heap->Prop
 | .lst i _,ge,j,ρ,h=>∃a,nth ρ i=some a/\h.IsListIter ge a j
 | .rng n,ge,j,_,h=>IsRangeIter h ge (j:Int) ((n:Int) - (j:Int)) 1
section
variable{N2:qX} {ge:Addr} {j:Nat} {ρ:List Addr} {h h':Heap} {σ:List O}
theorem jI.obj(x:jI N2 ge j ρ h):∃o,h.get? ge=some o/\o.cls≠ .type "tuple":=by
 cases N2 with
 |lst i xs=>
  obtain⟨a,_,o,ho,hc,_⟩:=x;exact⟨o,ho,by rw[hc];exact λq=>absurd (cq q) ()⟩
 |rng n=>exact⟨_,x,λq=>absurd (cq q) ()⟩
theorem jI.same{ρ':List Addr}(x:jI N2 ge j ρ h)(e:∀o,h.get? ge=some o->h'.get? ge=some o)(g:∀i xs a,N2= .lst i xs->nth ρ i=some a->nth ρ' i=some a):jI N2 ge j ρ' h':=by
 cases N2 with
 |lst i xs=>
  obtain⟨a,ha,o,ho,r⟩:=x;exact⟨a,g i xs a rfl ha,o,e o ho,r⟩
 |rng n=>exact e _ x
theorem qM{o:Obj}(e:h.get? ge=some o)(hn:o.cls≠ .type "tuple")(k:∀b o,b≠ge->h.get? b=some o->h'.get? b=some o):fV h h':=λa z' ⟨o',ho,hc,r⟩=>by
 by_cases z:a=ge
 .subst z;rw[e] at ho;cases ho;exact absurd hc hn
 .exact⟨o',k a o' z ho,hc,r⟩
theorem kB.off{nm:Nat->Str}{P:PW}{h₀:Heap}{o:Obj}(R:kB nm P h₀ ρ σ h)(e:h.get? ge=some o)(hn:o.cls≠ .type "tuple")(hI:ge∉dA ρ σ)(h0:h₀.get? ge=none)
  (k:∀b o,b≠ge->h.get? b=some o->h'.get? b=some o):kB nm P h₀ ρ σ h':=by
 refine⟨R.len,λi a q e1 e2=>(R.rep i a q e1 e2).up (.refl _) (qM e hn k) λb m x ex=>k b x (λz=>hI (z▸dC.mpr ⟨i,a,q,e1,e2,m⟩)) ex,R.apart,R.new,λb x ex=>k b x (λz=>?_) (R.old b x ex)⟩;subst z;rw[h0] at ex;cases ex
theorem eR.off{nm:Nat->Str}{P:PW}{h₀:Heap}{ρ9:List Addr}{σ0:List O}{s₀ s s':Shared}{o:Obj}(r:eR nm P h₀ ρ9 σ0 s₀ ρ σ s)(R2:kB nm P h₀ ρ9 σ0 s₀.heap)(e:s.heap.get? ge=some o)(hn:o.cls≠ .type "tuple")(hI:ge∉dA ρ σ)(h0:s₀.heap.get? ge=none\/ge∈dA ρ9 σ0)
  (k:∀b o,b≠ge->s.heap.get? b=some o->s'.heap.get? b=some o) (hg:s'.gens=s.gens) (ho:s'.os=s.os):eR nm P h₀ ρ9 σ0 s₀ ρ σ s':=by
 have hb:h₀.get? ge=none:=by
  cases q:h₀.get? ge with
  |none=>rfl
  |some x=>
   rcases h0 with h0 | h0
   .have:=R2.old ge x q;rw[h0] at this;cases this
   .have:=R2.new ge h0;rw[q] at this;cases this
 exact⟨r.grow,r.rel.off e hn hI hb k,λb x ex m=>k b x (λz=>by subst z;rcases h0 with h0 | h0;(rw[h0] at ex;cases ex);exact m h0) (r.keep b x ex m),r.fresh,hg.trans r.gens,ho.trans r.os,r.frm⟩
theorem vJ{c:Cx}{A:Around}{E:Value->Shared->Prop}{s:Shared}{Q:Option Value->Shared->Prop}{v:V}(R:c.R ρ σ s.heap)(hs:oB N2 σ)(x:jI N2 ge j ρ s.heap)(hv:N2.at j=some v)
  (q:∀y h' tk,dH ρ h' v y->jI N2 ge (j+1) ρ h'->(∀b o,b≠ge->s.heap.get? b=some o->h'.get? b=some o)->Q (some y) {s with heap:=h',toks:=tk}):wpAny c.M A (pyNext (.ref ge)) Q E s:=by
 obtain⟨oI,hoI,hnI⟩:=x.obj;cases N2 with
 |lst i xs=>
  obtain⟨a,ha,hit⟩:=x;obtain⟨y,hy⟩:=hs;obtain⟨z',n,ho,z⟩:=R.at ha hy;obtain⟨w,hw,vw⟩:=z.nth hv;refine wpAny_pyNext_list_item hit (items:=z'.toArray) (x:=w) ⟨_,ho,rfl,n,rfl⟩ (by simpa using hw) λh' hit' sb=>?_;have k:∀b o,b≠ge->s.heap.get? b=some o->h'.get? b=some o:=λb o hb e=>by rw[sb.2 b hb];exact e
  exact q w h' s.toks (vw.up (.refl _) (qM hoI hnI k)) ⟨a,ha,hit'⟩ k
 |rng n=>
  have hv:(if j<n then some (V.int true (j:Nat)) else none)=some v:=hv
  by_cases hj:j<n
  .rw[if_pos hj] at hv
   cases hv;refine wpAny_pyNext_range_item x (by omega) λh' hit' sb=>?_;exact q _ h' _ ⟨_,rfl⟩ (by show IsRangeIter h' ge ((j+1:Nat):Int) _ 1;rw[show((j+1:Nat):Int)=(j:Int)+1 from by omega,show(n:Int) - ((j:Int)+1)=(n:Int) - (j:Int) - 1 from by omega];exact hit') λb o hb e=>by rw[sb.2 b hb];exact e
  .rw[if_neg hj] at hv;cases hv
theorem yh{c:Cx}{A:Around}{E:Value->Shared->Prop}{s:Shared}{Q:Option Value->Shared->Prop}(hh:A.handled=none)(R:c.R ρ σ s.heap)(hs:oB N2 σ)(x:jI N2 ge j ρ s.heap)(hv:N2.at j=none)(hj:j<=N2.len)
  (q:∀h',(∀b o,b≠ge->s.heap.get? b=some o->h'.get? b=some o)->Q none {s with heap:=h'}):wpAny c.M A (pyNext (.ref ge)) Q E s:=by
 cases N2 with
 |lst i xs=>
  obtain⟨a,ha,hit⟩:=x;obtain⟨y,hy⟩:=hs;obtain⟨z',n,ho,z⟩:=R.at ha hy;have zl:=z.length;refine wpAny_pyNext_list_end hh hit (items:=z'.toArray) ⟨_,ho,rfl,n,rfl⟩ ?_ λh' xb=>q h' xb;have hv:nth xs j=none:=hv;rw[dP] at hv;have:=bW.mp hv;simp;omega
 |rng n=>
  have hv:(if j<n then some (V.int true (j:Nat)) else none)=none:=hv
  by_cases hj:j<n
  .rw[if_pos hj] at hv;cases hv
  .exact wpAny_pyNext_range_end hh x (by omega) λh' xb=>q h' xb
def uB(c:Cx)(it:ME)(fi:Nat)(σ:List O)(N2:qX)(σ1:List O):Prop:=
 ∀(A:Around) (env:Env) (x:Expr) (s:Shared) (ρ:List Addr) (Q E:Value->Shared->Prop),ee A c.P.room->dE env fi ρ->dO c.nm env.scope it x->c.R ρ σ s.heap->e9 c ρ->
  (∀ρ' s' ge,c.Rs ρ σ s ρ' σ1 s'->jI N2 ge 0 ρ' s'.heap->ge∉dA ρ' σ1->(s.heap.get? ge=none\/ge∈dA ρ σ)->Q (.ref ge) s')->wpAny c.M A (eval x env) (λv s1=>wpAny c.M A (pyIter v) Q E s1) E s
theorem kS{c:Cx}{r:Nat}{orc:Nat->Bool}(X:c.Ok)(F:pE c)(K:∀f,orc f=true->keepIn c.K (.ref f)=true){n fi:Nat}{it:ME}{ch:List Ch}{st:St}{i:Nat}{xs:List V}{y:Bool}
  (h:(ev (Bx c r orc).P n).e it fi ⟨σ,ch,[]⟩=some (.obj i,st)) (hc:All st.cs) (hi:nth st.os i=some (.list y xs)):uB (c.at (n+r)) it fi σ (.lst i xs) st.os:=by
 obtain⟨_,k2⟩:=(gR (jQ (r:=r) (orc:=orc) X) (gX F K) n).1 _ _ _ _ _ h hc;refine λA env x s ρ Q E rm en ck R ad q=>k2 A env x s ρ _ E rm en ck R ad λρ' s' v r1 v1=>?_;obtain⟨a,ha,rfl⟩:=v1;rw[<-dP] at ha;obtain⟨z',m,ho,z⟩:=r1.rel.at ha hi;refine wpAny_pyIter_list (items:=z'.toArray) ⟨_,ho,rfl,m,rfl⟩ ?_;have k:∀b o,s'.heap.get? b=some o->(s'.heap.push {cls:=.type "list_iterator",data:=.fields #[.ref a,.int 0 0]}).get? b=some o:=λb o e=>ae _ e;refine q ρ' _ _ (r1.trans (eR.more0 r1.rel k rfl rfl)) ⟨a,ha,_,aB _ rfl,rfl,rfl⟩ (λm=>?_) ?_
 .obtain⟨o,e⟩:=r1.rel.there m
  exact absurd (ay e) (bD _)
 .by_cases m:s'.heap.objs.size∈dA ρ σ
  .exact .inr m
  .cases e:s.heap.get? s'.heap.objs.size with
   |none=>exact .inl rfl
   |some o=>exact absurd (ay (r1.keep _ o e m)) (bD _)
end
nonrec theorem iz{c:Cx}{r:Nat}{n fi:Nat}{g:Nm}{σ:List O}{ch:List Ch}{st:St}{m:Nat}{y:Bool}{{orc:Nat->Bool}}(X:c.Ok)(F:pE c)(K:∀f,orc f=true->keepIn c.K (.ref f)=true){e:ME}(hg:c.P.glob g=some (.bi 6))(h:(ev (Bx c r orc).P n).e e fi ⟨σ,ch,[]⟩=some (.int y (m:Nat),st))(hc:All st.cs)(hm:m<2^60):uB (c.at (n+r)) (.call (.glb g) [e]) fi σ (.rng m) st.os:=by
 obtain⟨_,k2⟩:=(gR (jQ (r:=r) (orc:=orc) X) (gX F K) n).1 _ _ _ _ _ h hc;refine λA env x s ρ Q E rm en ck R ad q=>?_;obtain⟨f',as',p,rfl,hn,c1,c2⟩:=mF _ _ ck;obtain⟨id,np,rfl⟩:∃id np,f'= .Name id np:=by
  cases f'<;>first | exact⟨_,_,rfl⟩ | cases hn
 have c2':=c2;obtain⟨x1,xs,rfl,c3,c4⟩:=fK _ _ c2;obtain rfl:=jq _ _ c4;obtain⟨p',e',hl,hd⟩:=ve _ _ c1;cases e';refine bH (g8 (c:=c) (st:=⟨σ,ch,[]⟩) (E:=E) X hg en hl hd R λy1 v1=>?_);cases v1;refine cE (fW c2') (gq c2' ?_);refine aF (k2 A env x1 s ρ _ _ rm en c3 R ad λρ1 s1 y1 r1 v1=>?_) (ez (gQ _ _ _ _ c3));obtain⟨t,rfl⟩:=v1;refine aN ?_;refine call_range_1 ?_;refine wpAny_pyIter_range (IsRange.new _ _ _ _ _ _ _) (small_one (by omega) (by omega) (by omega) (by omega)) ?_;have k1:∀o b q,s1.heap.get? b=some q->(s1.heap.push o).get? b=some q:=λo b q e=>ae _ e;refine q ρ1 _ _ (r1.trans (eR.more0 r1.rel (λb o e=>ae _ (ae _ e)) rfl rfl)) ?_ (λmm=>?_) ?_
 .show IsRangeIter _ _ _ _ _
  have sz:Builtin.Range.rangeSize 0 (m:Int) 1=(m:Int):=by rw[rangeSize_one];split<;>omega
  rw[sz,show(m:Int) - ((0:Nat):Int)=(m:Int) from by omega];exact aB _ rfl
 .obtain⟨o,e⟩:=r1.rel.there mm
  have h3:s1.heap.objs.size+1<s1.heap.objs.size:=by have:=ay e;rwa [bB] at this
  exact absurd h3 (cF.mpr (au _))
 .by_cases mm:(s1.heap.push {cls:=Value.type "range",data:=Data.fields #[Value.int 0 s1.toks,Value.int (m:Int) t,Value.int 1 (s1.toks+1)]}).objs.size∈dA ρ σ
  .exact .inr mm
  .refine .inl ?_
   cases e:s.heap.get? (s1.heap.push {cls:=Value.type "range",data:=Data.fields #[Value.int 0 s1.toks,Value.int (m:Int) t,Value.int 1 (s1.toks+1)]}).objs.size with
   |none=>rfl
   |some o=>
    have h3:s1.heap.objs.size+1<s1.heap.objs.size:=by have:=ay (r1.keep _ o e mm);rwa [bB] at this
    exact absurd h3 (cF.mpr (au _))
def dL(c:Cx)(EI:eZ)(rz:Prop)(m:MS)(fi:Nat)(os:List O)(NP:Fl->List O->Prop)(XP:List O->Prop):Prop:=
 ∀(A:Around) (env:Env) (x:Stmt) (s:Shared) (ρ:List Addr) (l:List Env) (Q:Flow->Shared->Prop) (E:Value->Shared->Prop),ee A c.P.room->dE env fi ρ->gI c.nm env.scope m x->c.R ρ os s.heap->e9 c ρ->
  PassesOwn c.M A env E->(rz->iZ c.h₀ l A ρ os s.heap)->
  (∀ρ' s' fl N1 σ',NP fl σ'->c.Rs ρ os s ρ' σ' s'->qJ ρ' s'.heap fl N1->Q N1 s')->(rz->∀ρ' s' a σ',XP σ'->d9 c EI l ρ os s σ' ρ' a s'->E (.ref a) s')->wpAny c.M A (exec x env) Q E s
section
variable{c:Cx} {EI:eZ} {fi:Nat} {os:List O} {XP:List O->Prop} {NP:Fl->List O->Prop} {orc orc':Nat->Bool} {rz:Prop} {N2:qX}
theorem dL.normal{m:MS}{H':List O}{fl:Fl}(h:dL c EI False m fi os (λf σ'=>f=fl/\σ'=H') XP):zT c m fi os fl H':=
 λA env x s ρ Q E rm en ck R ad q=>wpAny_noRaise (h A env x s ρ [] Q (λI I=>False) rm en ck R ad .never (λf=>f.elim) (λρ' s' f N1 σ' e r v=>by obtain⟨rfl,rfl⟩:=e;exact q ρ' s' N1 r v) (λf=>f.elim))
theorem dL.raises{m:MS}{H':List O}(h:dL c EI True m fi os NP (·=H'))(hn:∀f σ,¬NP f σ):ma c EI m fi os H':=
 λA env x s ρ l Q E rm en ck R ad fr pe q=>h A env x s ρ l Q E rm en ck R ad pe (λI=>fr) (λρ' s' f N1 σ' e r v=>(hn _ _ e).elim) λI ρ' s' a σ' e x=>by subst e;exact q ρ' s' a x
def EY(c:Cx)(k:Nat)(NP:Fl->List O->Prop)(J:List O->Prop)(fl:Fl)(σ:List O):Prop:=match fl with
 | .next=>∃g,dg c k g σ J
 | .cont=>∃g,dg c k g σ J
 | .brk=>∃g,dg c k g σ (NP .next)
 | .ret v=>∃g w,RV g v w/\dg c k g σ (NP (.ret w))
def iC(c:Cx)(r:Nat)(orc orc':Nat->Bool)(EI:eZ)(rz:Prop)(n k:Nat)(b:List MS)(fi:Nat)(σ:List O)(NP:Fl->List O->Prop)(XP J:List O->Prop):Prop:=
 (∃ch fl st,(ev (Bx c r orc).P n).ss b fi ⟨σ,ch,[]⟩=some (fl,st)/\All st.cs/\EY c k NP J fl st.os)\/
 (rz/\∃ch st,(tP (Bx c r orc).P (Hh c r EI orc') n).ss b fi ⟨σ,ch,[]⟩=some st/\All st.cs/\∃g,dg c k g st.os XP)
theorem Dh{r:Nat}(X:c.Ok)(F:pE c)(K:∀f,orc f=true->keepIn c.K (.ref f)=true)(K':∀f,orc' f=true->keepIn c.K (.ref f)=true){n k:Nat}{b:List MS}{σ:List O}{J:List O->Prop}
  (h:iC c r orc orc' EI rz n k b fi σ NP XP J) (hk:os.length<=k) {A:Around} {env:Env} {x:List Stmt} {s₀ s:Shared} {ρ9 ρ:List Addr} {l:List Env} {Q:Flow->Shared->Prop} {E:Value->Shared->Prop} (rm:ee A (n+r)) (en:dE env fi ρ)
  (ck:iT c.nm env.scope b x) (r0:c.Rs ρ9 os s₀ ρ σ s) (hlen:ρ9.length=os.length) (ad:e9 c ρ) (pe:PassesOwn c.M A env E) (fr:rz->iZ c.h₀ l A ρ σ s.heap)
  (q:∀ρ1 s1 fl N1 σ1,c.Rs ρ σ s ρ1 σ1 s1->qJ ρ1 s1.heap fl N1->EY c k NP J fl σ1->Q N1 s1) (qx:rz->∀ρ' s' a σ',XP σ'->d9 c EI l ρ9 os s₀ σ' ρ' a s'->E (.ref a) s'):wpAny c.M A (execs x env) Q (notedBy c.M A env (cameBackBy c.M A env E)) s:=by
 rcases h with⟨ch,fl,st,e,hc,a⟩ | ⟨hz,ch,st,e,hc,g,T⟩
 .obtain⟨_,k2⟩:=(gR (jQ (r:=r) (orc:=orc) X) (gX F K) n).2.2.1 _ _ _ _ _ e hc
  exact k2 A env x s ρ Q _ rm en ck r0.rel ad λρ1 s1 N1 r1 v1=>q ρ1 s1 fl N1 st.os r1 v1 a
 .obtain⟨_,k2⟩:=(nh (EI:=EI) (jQ (r:=r) (orc:=orc) X) (gX F K) (qC orc' K') n).2 _ _ _ _ e hc
  refine aK (k2 A env x s ρ l Q E rm en ck r0.rel ad (fr hz) pe λρ1 s1 a x1=>?_) (λI I y=>y) pe;obtain⟨ρ2,σ2,j,x2⟩:=d9.tell (c:=c) (d9.after (c:=c) r0 x1) T hk hlen;exact qx hz ρ2 s1 a σ2 j x2
theorem pG{r:Nat}(X:c.Ok)(F:pE c)(K:∀f,orc f=true->keepIn c.K (.ref f)=true)(K':∀f,orc' f=true->keepIn c.K (.ref f)=true){n k:Nat}{t:ME}{b:List MS}
  (hk:os.length<=k) (ge:Nat->List O->Prop)
  (turn:∀N σ,ge N σ->∃ch bb st,(ev (Bx c r orc).P n).t t fi ⟨σ,ch,[]⟩=some (bb,st)/\All st.cs/\match bb with
   |false=>∃g,dg c k g st.os (NP .next)
   |true=>iC c r orc orc' EI rz n k b fi st.os NP XP (λσ'=>∃N',N'<N/\ge N' σ'))
  (N:Nat) (h:ge N os):dL (c.at (n+r)) EI rz (.while t b) fi os NP XP:=by
 refine λA env x s ρ l Q E rm en ck R ad pe fr q qx=>?_;obtain⟨t',b',p,rfl,c1,c2⟩:=BX _ _ ck;refine wpAny_While ?_;refine codeAny_whileLoop (λm s'=>∃ρ' σ',ge m σ'/\c.Rs ρ os s ρ' σ' s') (λm s' hI=>?_) N ⟨ρ,os,h,.refl R⟩;obtain⟨ρ1,σ1,i1,r1⟩:=hI;obtain⟨ch,bb,st,e,hc,more⟩:=turn m σ1 i1;obtain⟨_,k2⟩:=(gR (jQ (r:=r) (orc:=orc) X) (gX F K) n).2.1 _ _ _ _ _ e hc;refine k2 A env t' s' ρ1 _ _ rm (en.grow r1.grow) c1 r1.rel (eE.trans ad r1.grow) λρ2 s2 r2=>?_;have r12:c.Rs ρ os s ρ2 st.os s2:=r1.trans r2;cases bb with
 |false=>
  rw[if_neg ()];refine aM ?_;obtain⟨g,T⟩:=more;obtain⟨ρ3,σ3,j,r3,_⟩:=eR.tell (c:=c) r12 T hk R.len;exact q ρ3 s2 .next .next σ3 j r3 rfl
 |true=>
  rw[if_pos rfl];refine Dh X F K K' more hk rm (en.grow r12.grow) c2 r12 R.len (eE.trans ad r12.grow) pe (λz=>(fr z).res (c:=c) r12) (λρ3 s3 fl N1 σ3 r3 v3 a=>?_) qx;have r13:c.Rs ρ os s ρ3 σ3 s3:=r12.trans r3;have again:(∃g,dg c k g σ3 (λσ'=>∃N',N'<m/\ge N' σ'))->∃m',m'<m/\∃ρ' σ',ge m' σ'/\c.Rs ρ os s ρ' σ' s3:=λ⟨g,T⟩=>by
   obtain⟨ρ4,σ4,⟨N',l1,l2⟩,r4,_⟩:=eR.tell (c:=c) r13 T hk R.len;exact⟨N',l1,ρ4,σ4,l2,r4⟩
  cases fl with
  |next=>cases v3;exact again a
  |cont=>cases v3;exact again a
  |brk=>
   cases v3;obtain⟨g,T⟩:=a;obtain⟨ρ4,σ4,j,r4,_⟩:=eR.tell (c:=c) r13 T hk R.len;exact q ρ4 s3 .next .next σ4 j r4 rfl
  |ret v=>
   obtain⟨y,rfl,vy⟩:=v3;obtain⟨g,w,rv,T⟩:=a;obtain⟨ρ4,σ4,j,r4,g4,_⟩:=eR.tell (c:=c) r13 T hk R.len;exact q ρ4 s3 (.ret w) (.ret y) σ4 j r4 ⟨y,rfl,rv.rep g4 vy⟩
theorem jI.res{Ia:Addr}{j:Nat}{ρ ρ':List Addr}{σ σ':List O}{s s':Shared}(r:c.Rs ρ σ s ρ' σ' s')(x:jI N2 Ia j ρ s.heap)(hI:Ia∉dA ρ σ):jI N2 Ia j ρ' s'.heap/\Ia∉dA ρ' σ':=by
 obtain⟨o,ho,_⟩:=x.obj;refine⟨x.same (λo e=>r.keep Ia o e hI) λi xs a I e=>r.grow i a e,λm=>?_⟩;rcases r.fresh Ia m with m | m
 .exact hI m
 .rw[ho] at m;cases m
theorem mR{nm:Nat->Str}{sc:Scope}{m:ME}{x:Expr}(h:dO nm sc m x)(hm:m≠ .oth)(env:Env)(v:Value):foldedSetIterable x env v=pure v:=by
 cases x with
 |Set es k p=>cases m<;>first | exact absurd rfl hm | exact absurd (show false=true from h) b8
 |_=>rfl
theorem vR{j:Nat}(hv:N2.at j=none)(hj:j<=N2.len):j=N2.len:=by
 cases N2 with
 |lst i xs=>
  have hv:nth xs j=none:=hv;rw[dP] at hv;exact Nat.le_antisymm hj (bW.mp hv)
 |rng n=>
  have hv:(if j<n then some (V.int true (j:Nat)) else none)=none:=hv
  by_cases z:j<n
  .rw[if_pos z] at hv;cases hv
  .exact Nat.le_antisymm hj (cF.mp z)
theorem sw{j:Nat}{v:V}(hv:N2.at j=some v):j<N2.len:=by
 cases N2 with
 |lst i xs=>exact fO hv
 |rng n=>
  have hv:(if j<n then some (V.int true (j:Nat)) else none)=some v:=hv
  by_cases z:j<n
  .exact z
  .rw[if_neg z] at hv;cases hv
theorem rL{r:Nat}(X:c.Ok)(F:pE c)(K:∀f,orc f=true->keepIn c.K (.ref f)=true)(K':∀f,orc' f=true->keepIn c.K (.ref f)=true){n k:Nat}{nn:Nm}{it:ME}{b:List MS}{σ1:List O}
  (hk:os.length<=k) (hi:uB (c.at (n+r)) it fi os N2 σ1) (hm:it≠ .oth) (ge:Nat->List O->Prop) (h0:ge 0 σ1) (hsrc:∀i xs,N2= .lst i xs->i<k) (hin:∀j σ,ge j σ->oB N2 σ)
  (turn:∀j σ v,ge j σ->N2.at j=some v->∃st0,gW ⟨σ,[],[]⟩ fi nn v=some st0/\iC c r orc orc' EI rz n k b fi st0.os NP XP (ge (j+1)))
  (fin:∀σ,ge N2.len σ->∃g,dg c k g σ (NP .next)):dL (c.at (n+r)) EI rz (.for nn it b) fi os NP XP:=by
 refine λA env x s ρ l Q E rm en ck R ad pe fr q qx=>?_;obtain⟨p,it',b',p',rfl,hl,c1,c2⟩:=Go _ _ ck;refine wpAny_For ?_ (mR c1 hm env);refine hi A env it' s ρ _ E rm en c1 R ad λρ0 s0 Ia r0 x0 n0 f0=>?_;refine codeAny_forLoop_any (λm s'=>∃j ρ' σ',m=N2.len - j/\j<=N2.len/\ge j σ'/\c.Rs ρ os s ρ' σ' s'/\jI N2 Ia j ρ' s'.heap/\Ia∉dA ρ' σ') (λm s' hI=>?_) N2.len ⟨0,ρ0,σ1,by omega,by omega,h0,r0,x0,n0⟩;obtain⟨j,ρ1,σ',em,hj,i1,r1,x1,n1⟩:=hI;rw[em];obtain⟨oI,hoI,hnI⟩:=x1.obj;cases hv:N2.at j with
 |none=>
  have hj':j=N2.len:=vR hv hj;refine yh rm.handled r1.rel (hin _ _ i1) x1 hv hj λh' kp=>?_;refine aM ?_;have r2:c.Rs ρ os s ρ1 σ' {s' with heap:=h'}:=r1.off R hoI hnI n1 f0 kp rfl rfl;obtain⟨g,T⟩:=fin σ' (hj'▸i1);obtain⟨ρ3,σ3,jj,r3,_⟩:=eR.tell (c:=c) r2 T hk R.len;exact q ρ3 _ .next .next σ3 jj r3 rfl
 |some v=>
  have hj':j<N2.len:=sw hv;obtain⟨st0,e0,T0⟩:=turn j σ' v i1 hv;refine vJ r1.rel (hin _ _ i1) x1 hv λy h' tk vy x2 kp=>?_;have r2:c.Rs ρ os s ρ1 σ' {s' with heap:=h',toks:=tk}:=r1.off R hoI hnI n1 f0 kp rfl rfl;refine bV (a:=Unit.unit) rfl ?_;refine bN ?_;obtain⟨_,_,k2⟩:=d7 X e0;refine k2 A env _ ρ1 y _ _ (en.grow r2.grow) hl r2.rel vy λs3 r3=>?_;obtain⟨x3,n3⟩:=x2.res (c:=c) r3 n1;have r03:c.Rs ρ os s ρ1 st0.os s3:=r2.trans r3;refine Dh X F K K' T0 hk rm (en.grow r2.grow) c2 r03 R.len (eE.trans ad r2.grow) pe (λz=>(fr z).res (c:=c) r03) (λρ4 s4 fl N1 σ4 r4 v4 a=>?_) qx;have r04:c.Rs ρ os s ρ4 σ4 s4:=r03.trans r4;obtain⟨x4,n4⟩:=x3.res (c:=c) r4 n3;have again:(∃g,dg c k g σ4 (ge (j+1)))->∃m',m'<N2.len - j/\∃j' ρ' σ',m'=N2.len - j'/\j'<=N2.len/\ge j' σ'/\c.Rs ρ os s ρ' σ' s4/\jI N2 Ia j' ρ' s4.heap/\Ia∉dA ρ' σ':=λ⟨g,T⟩=>by
   obtain⟨ρ5,σ5,jj,r5,_,g5,f5,_⟩:=eR.tell (c:=c) r04 T hk R.len;exact⟨N2.len - (j+1),cL hj' (aX j),j+1,ρ5,σ5,rfl,hj',jj,r5,x4.same (λI e=>e) (λi xs a e ea=>g5 i a (hsrc i xs e) ea),λm=>n4 (f5 _ m)⟩
  cases fl with
  |next=>cases v4;exact again a
  |cont=>cases v4;exact again a
  |brk=>
   cases v4;obtain⟨g,T⟩:=a;obtain⟨ρ5,σ5,jj,r5,_⟩:=eR.tell (c:=c) r04 T hk R.len;exact q ρ5 s4 .next .next σ5 jj r5 rfl
  |ret v=>
   obtain⟨y,rfl,vy⟩:=v4;obtain⟨g,w,rv,T⟩:=a;obtain⟨ρ5,σ5,jj,r5,g5,_⟩:=eR.tell (c:=c) r04 T hk R.len;exact q ρ5 s4 (.ret w) (.ret y) σ5 jj r5 ⟨y,rfl,rv.rep g5 vy⟩
end
section
set_option tactic.hygienic true
/-! a summary over few cells,used amid many -/
def back(l:List Nat)(m:Nat)(j:Nat):Option Nat:=match nth l j with
 |some i=>some i
 |none=>some (m+(j - l.length))
def zY:List Nat->List O->List O->List O
 |[],_,os=>os
 |i::l,ns,os=>match ns with
  |[]=>os
  |o::ns=>zY l ns (setN os i o)
abbrev fB(os:List O)(l:List Nat)(ns:List O):List O:=zY l ns os
theorem iy:∀(os:List O) (l:List Nat) (ns:List O),(fB os l ns).length=os.length
 |os,[],_=>rfl
 |os,i::l,[]=>rfl
 |os,i::l,o::ns=>(iy (setN os i o) l ns).trans (oY _ _ _)
theorem xV(os:List O)(ns:List O):fB os [] ns=os:=rfl
theorem lv:∀{l:List Nat} {os ns:List O} {i:Nat},i∉l->nth (fB os l ns) i=nth os i
 |[],os,ns,i,_=>by rw[xV]
 |k::l,os,[],i,_=>rfl
 |k::l,os,o::ns,i,h=>by
  show nth (fB (setN os k o) l ns) i=_;rw[lv (λm=>h (.tail _ m)),j6 _ _ (λe=>h (by rw[e];exact .head _))]
theorem nu:∀{l:List Nat} {os ns:List O} {i j:Nat} {o:O},l.Nodup->nth l j=some i->nth ns j=some o->i<os.length->nth (fB os l ns) i=some o
 |[],_,_,_,_,_,_,h,_,_=>by cases h
 |k::l,os,[],_,_,_,_,_,h,_=>by cases h
 |k::l,os,x::ns,i,0,o,nd,h1,h2,hi=>by
  have h1:k=i:=ac h1;have h2:x=o:=ac h2;subst h1 h2;show nth (fB (setN os k x) l ns) k=_;rw[lv (List.nodup_cons.mp nd).1];have e:nth os k=some os[k]:=by rw[dP];exact List.getElem?_eq_getElem hi
  exact mO _ e
 |k::l,os,x::ns,i,j+1,o,nd,h1,h2,hi=>by
  show nth (fB (setN os k x) l ns) i=_;exact nu (List.nodup_cons.mp nd).2 h1 h2 (by rw[oY];exact hi)
theorem oo:∀{α:Type} {l:List α} {j:Nat} {x:α},nth l j=some x->x∈l
 |_,[],_,_,h=>by cases h
 |_,a::l,0,_,h=>by cases h;exact .head _
 |_,a::l,j+1,_,h=>.tail _ (oo (l:=l) h)
theorem ry{α:Type}{x:α}:∀{l:List α},x∈l->∃j,nth l j=some x
 |[],h=>by cases h
 |a::l,h=>(aD.mp h).elim (λe=>⟨0,az some e.symm⟩) λm=>let⟨j,e⟩:=ry m;⟨j+1,e⟩
theorem mE{α:Type}:∀(l:List α) (m j:Nat),nth (l.drop m) j=nth l (m+j)
 |l,0,j=>by rw[List.drop_zero,bS]
 |[],m+1,j=>by rw[List.drop_nil];rfl
 |a::l,m+1,j=>by rw[List.drop_succ_cons,mE l m j,bF];rfl
theorem pq{α:Type}:∀(l:List α) (m j:Nat),j<m->nth (l.take m) j=nth l j
 |l,0,j,h=>absurd h (cB _)
 |[],m+1,j,_=>by rw[List.take_nil]
 |a::l,m+1,0,_=>rfl
 |a::l,m+1,j+1,h=>pq l m j (Nat.lt_of_succ_lt_succ h)
theorem jN{α:Type}:∀(l r:List α) (j:Nat),nth (l++r) (l.length+j)=nth r j
 |[],r,j=>by rw[cP];show nth r (0+j)=_;rw[bS]
 |a::l,r,j=>by
  show nth (a::(l++r)) (l.length+1+j)=_;rw[bF];exact jN l r j
theorem kO{α:Type}:∀(l r:List α) (j:Nat),j<l.length->nth (l++r) j=nth l j
 |[],_,_,h=>absurd h (cB _)
 |a::l,r,0,_=>rfl
 |a::l,r,j+1,h=>kO l r j (Nat.lt_of_succ_lt_succ h)
theorem CX{α:Type}{l:List α}{j:Nat}(h:j<l.length):∃x,nth l j=some x:=by
 rw[dP];exact⟨_,List.getElem?_eq_getElem h⟩
nonrec theorem ua{c:Cx}{os I' σs σs' news:List O}{s s':Shared}{ρ ρs':List Addr}{{l:List Nat}}(e:l.map (nth os ·)=I'.map some)(nd:l.Nodup)(S:ROs (fb l) I' σs)(B:ROs (back l os.length) σs' news)(R:c.R ρ os s.heap)(r:c.Rs (jv 0 l ρ) σs s ρs' σs' s'):c.Rs ρ os s (ρ++ρs'.drop l.length) (fB os l (news.take l.length)++news.drop l.length) s'/\
   (∀i j,back l os.length i=some j->∀a,nth ρs' i=some a->nth (ρ++ρs'.drop l.length) j=some a)/\
   (∀x∈dA (ρ++ρs'.drop l.length) (fB os l (news.take l.length)++news.drop l.length),x∈dA ρs' σs'\/(x∉dA (jv 0 l ρ) σs/\x∈dA ρ os/\∃y,s.heap.get? x=some y))/\
   ∀j b m,nth ρs' j=some b->nth σs' j=some (.frame m)->∃i m',nth (ρ++ρs'.drop l.length) i=some b/\nth (fB os l (news.take l.length)++news.drop l.length) i=some (.frame m'):=by
 have Sl:=vN e nd S;obtain⟨Rs,ft⟩:=R.sel Sl;have lenl:σs.length=l.length:=Sl.len;have lenp:(jv 0 l ρ).length=l.length:=by unfold jv;rw[List.length_map]
 have lin:∀i∈l,i<os.length:=λi m=>by
  obtain⟨j,ej⟩:=ry m;obtain⟨o,o',e1,_⟩:=Sl.cell j i ej;exact fO e1
 have len':ρs'.length=σs'.length:=r.rel.len;have lennews:news.length=σs'.length:=B.len;have le:l.length<=ρs'.length:=by
  rcases Nat.eq_zero_or_pos l.length with z | z
  .omega
  .obtain⟨a,ha⟩:=CX (l:=jv 0 l ρ) (j:=l.length - 1) (by rw[lenp];omega)
   have:=fO (r.grow _ _ ha);omega
 have old:∀j i,nth l j=some i->∃a,nth ρ i=some a/\nth ρs' j=some a:=λj i ej=>by
  obtain⟨o,o',e1,_⟩:=Sl.cell j i ej;obtain⟨a,ha⟩:=jK R.len.symm e1;exact⟨a,ha,r.grow _ _ (by rw[je ej,ha];rfl)⟩
 have g:∀i j,back l os.length i=some j->∀a,nth ρs' i=some a->nth (ρ++ρs'.drop l.length) j=some a:=λi j q a ha=>by
  have q:(match nth l i with | some i=>some i | none=>some (os.length+(i - l.length)))=some j:=q;cases ek:nth l i with
  |some k=>
   rw[ek] at q;obtain rfl:=ac q;obtain⟨b,hb,hb'⟩:=old i _ ek;rw[ha] at hb';cases hb';exact jF _ hb
  |none=>
   rw[ek] at q;obtain rfl:=ac q;have hi:l.length<=i:=by
    rw[dP] at ek;exact bW.mp ek
   rw[<-R.len,jN,mE,show l.length+(i - l.length)=i from by omega];exact ha
 have cls:∀i a o,nth (ρ++ρs'.drop l.length) i=some a->nth (fB os l (news.take l.length)++news.drop l.length) i=some o->
   (i<os.length/\i∉l/\nth ρ i=some a/\nth os i=some o)\/∃j o1,nth ρs' j=some a/\nth σs' j=some o1/\RO (back l os.length) o1 o/\back l os.length j=some i:=λi a o e1 e2=>by
  by_cases hi:i<os.length
  .rw[kO _ _ _ (by rw[R.len];exact hi)] at e1
   rw[kO _ _ _ (by rw[iy];exact hi)] at e2
   by_cases m:i∈l
   .obtain⟨j,ej⟩:=ry m
    obtain⟨b,hb,hb'⟩:=old j i ej;rw[e1] at hb;cases hb;obtain⟨o1,ho1⟩:=jK len' hb';obtain⟨o2,ho2,q⟩:=B.at ho1;have hj:j<l.length:=fO ej;rw[nu nd ej (by rw[pq _ _ _ hj];exact ho2) hi] at e2;cases e2;exact .inr ⟨j,o1,hb',ho1,q,by unfold back;rw[ej]⟩
   .rw[lv m] at e2
    exact .inl ⟨hi,m,e1,e2⟩
  .obtain⟨d,rfl⟩:∃d,i=os.length+d:=⟨i - os.length,by omega⟩
   rw[<-R.len,jN,mE] at e1;rw[<-iy os l (news.take l.length),jN,mE] at e2;obtain⟨o1,ho1⟩:=jK len' e1;obtain⟨o2,ho2,q⟩:=B.at ho1;rw[e2] at ho2;cases ho2;refine .inr ⟨_,o1,e1,ho1,q,?_⟩;unfold back;have:nth l (l.length+d)=none:=by rw[dP];exact bW.mpr (aA _ _)
   rw[this];show some (os.length+(l.length+d - l.length))=_;rw[Nat.add_sub_cancel_left]
 have foot_s:∀j a o1 o,nth ρs' j=some a->nth σs' j=some o1->RO (back l os.length) o1 o->j4 c.nm ⟨c.prog,c.w⟩ (ρ++ρs'.drop l.length) s'.heap a o/\foot a o=foot a o1:=λj a o1 o e1 e2 q=>
  q.rep g (r.rel.rep j a o1 e1 e2)
 have offs:∀i a o,i∉l->nth ρ i=some a->nth os i=some o->∀x∈foot a o,x∉dA (jv 0 l ρ) σs:=λi a o m e1 e2 x hx q=>by
  obtain⟨j,b,o',f1,f2,f3⟩:=dC.mp q;obtain⟨i',f4,f5⟩:=oz f1;obtain⟨o1,o2,g1,g2,y⟩:=Sl.cell j i' f4;rw[f2] at g2;cases g2;obtain⟨a',ha'⟩:=jK R.len.symm g1;rw[ha'] at f5;cases f5;have yy:=(y.rep (P:=⟨c.prog,c.w⟩) (nm:=c.nm) (ρ:=ρ) (ρ':=jv 0 l ρ) (h:=s.heap) (λi j q a ha=>by rw[je (Sl.back i j q),ha];rfl) (R.at ha' g1)).2;have f3:x∈foot a' o':=f3;rw[yy] at f3;exact R.apart i i' a a' o o1 e1 e2 ha' g1 (λz=>m (z▸oo f4)) x hx f3
 have there:∀i a o,nth ρ i=some a->nth os i=some o->∀x∈foot a o,∃y,s.heap.get? x=some y:=λi a o e1 e2 x hx=>(R.rep i a o e1 e2).there x hx;have offs':∀i a o,i∉l->nth ρ i=some a->nth os i=some o->∀x∈foot a o,x∉dA ρs' σs':=λi a o m e1 e2 x hx q=>by
  rcases r.fresh x q with z | z
  .exact offs i a o m e1 e2 x hx z
  .obtain⟨y,hy⟩:=there i a o e1 e2 x hx
   rw[hy] at z;cases z
 have ftall:∀x∈dA (ρ++ρs'.drop l.length) (fB os l (news.take l.length)++news.drop l.length),x∈dA ρ os\/(x∈dA ρs' σs'):=λx hx=>by
  obtain⟨i,a,o,f1,f2,f3⟩:=dC.mp hx;rcases cls i a o f1 f2 with⟨hi,m,g1,g2⟩ | ⟨j,o1,g1,g2,y,_⟩
  .exact .inl (dC.mpr ⟨i,a,o,g1,g2,f3⟩)
  .rw[(foot_s j a o1 o g1 g2 y).2] at f3
   exact .inr (dC.mpr ⟨j,a,o1,g1,g2,f3⟩)
 have ftall2:∀x∈dA (ρ++ρs'.drop l.length) (fB os l (news.take l.length)++news.drop l.length),x∈dA ρs' σs'\/(x∉dA (jv 0 l ρ) σs/\x∈dA ρ os/\∃y,s.heap.get? x=some y):=λx hx=>by
  obtain⟨i,a,o,f1,f2,f3⟩:=dC.mp hx;rcases cls i a o f1 f2 with⟨hi,m,g1,g2⟩ | ⟨j,o1,g1,g2,y,_⟩
  .exact .inr ⟨offs i a o m g1 g2 x f3,dC.mpr ⟨i,a,o,g1,g2,f3⟩,there i a o g1 g2 x f3⟩
  .rw[(foot_s j a o1 o g1 g2 y).2] at f3
   exact .inl (dC.mpr ⟨j,a,o1,g1,g2,f3⟩)
 have frs:∀j b m,nth ρs' j=some b->nth σs' j=some (.frame m)->∃i m',nth (ρ++ρs'.drop l.length) i=some b/\nth (fB os l (news.take l.length)++news.drop l.length) i=some (.frame m'):=λj b m e1 e2=>by
  obtain⟨o2,ho2,q⟩:=B.at e2;obtain⟨m',rfl,_⟩:=q;cases hb:back l os.length j with
  |none=>
   have hb:(match nth l j with | some i=>some i | none=>some (os.length+(j - l.length)))=none:=hb;cases ek:nth l j<;>(rw[ek] at hb;cases hb)
  |some i=>
   refine⟨i,m',g j i hb b e1,?_⟩;have hb:(match nth l j with | some i=>some i | none=>some (os.length+(j - l.length)))=some i:=hb;cases ek:nth l j with
   |some k=>
    rw[ek] at hb;obtain rfl:=ac hb;rw[kO _ _ _ (by rw[iy];exact lin _ (oo ek))];exact nu nd ek (by rw[pq _ _ _ (fO ek)];exact ho2) (lin _ (oo ek))
   |none=>
    rw[ek] at hb;obtain rfl:=ac hb;have hi:l.length<=j:=by
     rw[dP] at ek;exact bW.mp ek
    rw[<-iy os l (news.take l.length),jN,mE,show l.length+(j - l.length)=j from by omega];exact ho2
 have kp:∀b x,s.heap.get? b=some x->b∉dA (jv 0 l ρ) σs->s'.heap.get? b=some x:=r.keep;have tk:fV s.heap s'.heap:=r.tk Rs;refine⟨⟨λi a q=>jF _ q,⟨?_,λi a o e1 e2=>?_,λi j a b o q e1 e2 e3 e4 ne x hx hx'=>?_,λx hx=>?_,r.rel.old⟩,λb x q m=>kp b x q λz=>m (ft b z),λx hx=>?_,r.gens,r.os,λi m q=>?_⟩,g,ftall2,frs⟩
 .rw[ai,ai,iy,R.len,List.length_drop,List.length_drop,len',lennews]
 .rcases cls i a o e1 e2 with⟨hi,m,g1,g2⟩ | ⟨j,o1,g1,g2,y,_⟩
  .exact(R.rep i a o g1 g2).up (.app _ _) tk λb hb x q=>kp b x q (offs i a o m g1 g2 b hb)
  .exact(foot_s j a o1 o g1 g2 y).1
 .rcases cls i a o e1 e2 with⟨hi,m,g1,g2⟩ | ⟨j1,o1,g1,g2,y,b1⟩
  .rcases cls j b q e3 e4 with⟨hj,m',k1,k2⟩ | ⟨j2,o2,k1,k2,y2,b2⟩
   .exact R.apart i j a b o q g1 g2 k1 k2 ne x hx hx'
   .rw[(foot_s j2 b o2 q k1 k2 y2).2] at hx'
    exact offs' i a o m g1 g2 x hx (dC.mpr ⟨j2,b,o2,k1,k2,hx'⟩)
  .rw[(foot_s j1 a o1 o g1 g2 y).2] at hx
   rcases cls j b q e3 e4 with⟨hj,m',k1,k2⟩ | ⟨j2,o2,k1,k2,y2,b2⟩
   .exact offs' j b q m' k1 k2 x hx' (dC.mpr ⟨j1,a,o1,g1,g2,hx⟩)
   .rw[(foot_s j2 b o2 q k1 k2 y2).2] at hx'
    exact r.rel.apart j1 j2 a b o1 o2 g1 g2 k1 k2 (λz=>by subst z;rw[b1] at b2;exact ne (ac b2)) x hx hx'
 .rcases ftall x hx with z | z
  .exact R.new x z
  .exact r.rel.new x z
 .rcases ftall x hx with z | z
  .exact .inl z
  .rcases r.fresh x z with y | y
   .exact .inl (ft x y)
   .exact .inr y
 .have hi:=fO q
  rw[kO _ _ _ (by rw[iy];exact hi)]
  by_cases mm:i∈l
  .obtain⟨j,ej⟩:=ry mm
   obtain⟨o1,o2,e1,e2,y⟩:=Sl.cell j i ej;rw[q] at e1;cases e1;obtain⟨b',rfl,_⟩:=y;obtain⟨m2,e3⟩:=r.frm j b' e2;obtain⟨o3,e4,y3⟩:=B.at e3;obtain⟨b3,rfl,_⟩:=y3;exact⟨b3,nu nd ej (by rw[pq _ _ _ (fO ej)];exact e4) hi⟩
  .exact⟨m,by rw[lv mm];exact q⟩
theorem fJ.frame{c:Cx}{l:List Nat}{os I' σs σs' news:List O}(hads:c.P.ads=[]){f:Nat}{vss vs:List V}{v w:V}(H:fJ c f vss σs v σs')(e:l.map (nth os ·)=I'.map some)(nd:l.Nodup)(S:ROs (fb l) I' σs)(rvs:RVs (fb l) vs vss)
  (B:ROs (back l os.length) σs' news) (rw':RV (back l os.length) v w):fJ c f vs os w (fB os l (news.take l.length)++news.drop l.length):=by
 refine λA xs s ρ Q E rm R ad vr q=>?_;have Sl:=vN e nd S;refine H A xs s (jv 0 l ρ) Q E rm (R.sel Sl).1 (by unfold e9;rw[hads];intro i a z;cases z) (rvs.rep (λi j q a ha=>by rw[je (Sl.back i j q),ha];rfl) vr) λρs' s' y r vy=>?_;obtain⟨r2,g,_⟩:=ua e nd S B R r;exact q _ s' y r2 (rw'.rep g vy)
theorem eU.frame{c:Cx}{l:List Nat}{os I' σs σs' news:List O}{EI:eZ}(hads:c.P.ads=[]){f:Nat}{vss vs:List V}(H:eU c EI f vss σs σs')(e:l.map (nth os ·)=I'.map some)(nd:l.Nodup)(S:ROs (fb l) I' σs)(rvs:RVs (fb l) vs vss)
  (B:ROs (back l os.length) σs' news):eU c EI f vs os (fB os l (news.take l.length)++news.drop l.length):=by
 refine λA xs s ρ L E rm R ad fr vr q=>?_;have Sl:=vN e nd S;obtain⟨Rsm,ft⟩:=R.sel Sl;refine H A xs s (jv 0 l ρ) L E rm Rsm (by unfold e9;rw[hads];intro i a z;cases z) ⟨fr.fr,fr.ff,λb m hb=>?_⟩ (rvs.rep (λi j q a ha=>by rw[je (Sl.back i j q),ha];rfl) vr) λρs' s' a x=>?_
 .obtain⟨i,m',e1,e2⟩:=fr.ap b m (ft b hb)
  exact AL R Sl b hb i m' e1 e2
 .obtain⟨sm,fs,h1,h2,h3,h4,h5,h6,h7,h8,h9,h10⟩:=x
  obtain⟨r2,g,fa,fr2⟩:=ua e nd S B R h1;have nw:∀b,s.heap.get? b=none\/b∈dA (jv 0 l ρ) σs->s.heap.get? b=none\/b∈dA ρ os:=λb z=>z.imp id (ft b);refine q _ s' a ⟨sm,fs,r2,h2,h3,h4,h5,λb m hb=>?_,λm=>?_,h8,λb m=>(h9 b m).imp id (nw b),nw a h10⟩
  .rcases fa b hb with z | ⟨z1,z2,y,z3⟩
   .obtain⟨j,m',e1,e2⟩:=h6 b m z
    exact fr2 j b m' e1 e2
   .rcases h9 b m with k | k | k
    .obtain⟨i,m',e1,e2⟩:=fr.ap b k z2
     obtain⟨m2,e3⟩:=r2.frm i m' e2;exact⟨i,m2,r2.grow _ _ e1,e3⟩
    .rw[z3] at k;cases k
    .exact absurd k z1
  .rcases fa a m with z | ⟨z1,z2,y,z3⟩
   .exact h7 z
   .rcases h10 with k | k
    .rw[z3] at k;cases k
    .exact z1 k
end
abbrev cU:Nat:=0
abbrev du:Nat:=1
abbrev dj:Nat:=2
abbrev jL:Nat:=3
abbrev fU:Nat:=4
abbrev dU:Nat:=5
abbrev lI:Nat:=6
abbrev Lh:Nat:=7
abbrev io:Nat:=8
abbrev lQ:Nat:=9
abbrev cV:Nat:=10
abbrev dY:Nat:=11
abbrev dS:Nat:=12
abbrev hV:Nat:=13
abbrev oF:Nat:=14
abbrev Dj:Nat:=15
abbrev vc:Nat:=16
abbrev Eh:Nat:=17
abbrev mG:Nat:=18
abbrev Ie:Nat:=19
abbrev DY:Nat:=20
abbrev vf:Nat:=21
abbrev Hr:Nat:=22
abbrev Ac:Nat:=23
abbrev HG:Nat:=24
abbrev DU:Nat:=25
abbrev EG:Nat:=26
abbrev DW:Nat:=27
abbrev qc:Nat:=28
abbrev AR:Nat:=30
abbrev dW:Nat:=31
abbrev yz:Nat:=32
abbrev En:Nat:=34
abbrev sJ:Nat:=35
abbrev mH:Nat:=36
abbrev tL:Nat:=37
abbrev yX:Nat:=38
abbrev sN:Nat:=39
abbrev dX:Nat:=40
abbrev dN:Nat:=41
abbrev g9:Nat:=43
abbrev iS:Nat:=44
abbrev jb:Nat:=45
abbrev ia:Nat:=48
abbrev HK:Nat:=56
abbrev AS:Nat:=66
abbrev dt:Nat:=67
abbrev ue:Nat:=68
abbrev EH:Nat:=69
abbrev uR:Nat:=70
abbrev tj:Nat:=71
abbrev t9:Nat:=72
abbrev tK:Nat:=73
abbrev tX:Nat:=74
abbrev cS:Nat:=75
abbrev gJ:Nat:=76
abbrev yB:Nat:=77
abbrev AI:Nat:=79
abbrev Iz:Nat:=82
abbrev gL:Nat:=83
abbrev xL:Nat:=88
abbrev BL:Nat:=89
abbrev BG:Nat:=90
abbrev zi:Nat:=91
abbrev BW:Nat:=92
abbrev yi:Nat:=93
abbrev DJ:Nat:=94
abbrev xH:Nat:=95
abbrev zw:Nat:=96
abbrev wG:Nat:=97
abbrev BF:Nat:=98
abbrev A9:Nat:=99
abbrev zn:Nat:=101
abbrev om:Nat:=102
abbrev dq:Nat:=103
abbrev iH:Nat:=104
abbrev mZ:Nat:=105
abbrev D9:Nat:=106
abbrev hG:Nat:=107
abbrev dB:Nat:=108
abbrev dQ:Nat:=109
abbrev Ef:Nat:=110
abbrev H6:Nat:=111
abbrev FD:Nat:=112
abbrev yN:Nat:=113
abbrev IU:Nat:=114
abbrev yP:Nat:=115
abbrev CV:Nat:=116
abbrev iI:Nat:=117
abbrev yq:Nat:=118
abbrev tq:Nat:=119
abbrev FF:Nat:=120
abbrev ow:Nat:=121
abbrev re:Nat:=122
abbrev ug:Nat:=123
abbrev qV:Nat:=124
abbrev JF:Nat:=125
abbrev wu:Nat:=126
abbrev BN:Nat:=127
abbrev Fs:Nat:=128
abbrev FZ:Nat:=129
abbrev Cf:Nat:=130
abbrev Dn:Nat:=131
abbrev cT:Nat:=132
abbrev A8:Nat:=133
abbrev GS:Nat:=134
abbrev Ku:Nat:=135
abbrev vV:Nat:=136
abbrev sC:Nat:=137
abbrev pa:Nat:=138
abbrev gu:Nat:=139
abbrev dJ:Nat:=140
abbrev fS:Nat:=141
abbrev gK:Nat:=142
abbrev eP:Nat:=143
abbrev eH:Nat:=145
abbrev yE:Nat:=146
abbrev qg:Nat:=147
abbrev Gh:Nat:=148
abbrev gh:Nat:=149
abbrev fG:Nat:=150
abbrev yj:Nat:=151
abbrev fL:Nat:=152
abbrev fy:Nat:=153
abbrev DS:Nat:=154
abbrev Cq:Nat:=155
abbrev vO:Nat:=156
abbrev Bg:Nat:=157
abbrev HB:Nat:=158
abbrev vn:Nat:=159
abbrev ey:Nat:=160
abbrev lG:Nat:=161
abbrev km:Nat:=162
abbrev lc:Nat:=163
abbrev lE:Nat:=164
abbrev gm:Nat:=165
abbrev nO:Nat:=166
abbrev yO:Nat:=167
abbrev gY:Nat:=168
abbrev gV:Nat:=169
abbrev mS:Nat:=170
abbrev rI:Nat:=171
abbrev kE:Nat:=172
abbrev oL:Nat:=173
abbrev dR:Nat:=174
abbrev w9:Nat:=175
abbrev eM:Nat:=176
abbrev lN:Nat:=177
abbrev Bi:Nat:=178
abbrev kF:Nat:=180
abbrev iJ:Nat:=181
abbrev yk:Nat:=182
abbrev oR:Nat:=183
abbrev ec:Nat:=184
abbrev HM:Nat:=185
abbrev lA:Nat:=186
abbrev gF:Nat:=187
abbrev iW:Nat:=188
abbrev kx:Nat:=189
abbrev qF:Nat:=190
abbrev kA:Nat:=191
def wg:List Str:=(["node","kind","found","waiting","len","part","isinstance","str","parts","is_plain_text","self","orders","order","with_texts_joined","row_of","put","put_choice","SINGLE","emit","ONE","WAYS","put_repeat","ALONE","PLACE","ASK","MARK","NAME","SET","ends","split","SPLIT","at","JUMP","leave","GAIN","goal","code","PatternCode","DONE","straightened","number","told","tree","owner","key","value","Failure","width","text","digits","sign","ord","fits","left","abs","chr","int","whole_of_text","text_of_whole","to_text","count","to_whole","WIDTH_OF_COUNT","need_text","Pattern","Delayed","tuple","host","COUNTED","SIGNED","is_delayed","value_of","is_fail","plain_count","plain_signs","subject","end","many","place","signs","is_in","run_end","list","range","level","OPENING","CLOSING","bal_end","chars_end","len_end","pos_end","rpos_end","tab_end","rtab_end","any_at","notany_at","span_end","break_end","rem_end","one_end","arb_ends","bal_ends","pc","named","marks","calls","Way","history","begin","way","step","MET","ABORT","OVER","done","way_back","FAILED","word","met_once","copied","ended","assign","other","settled","plain_end","FAIL","met_often","ends_of","asked","FENCE","SUCCEED","last","is_anchored","how","Match","run","named_rows","match_orders","compile_pattern","values","limit","refused","steps","log","get","ref","match_at","LOST","tried","pile","chain","advanced","here","rest","led_in","led_out","pattern_of","steered","taken","plain","box","form","_law_take","some","names","is_fenced","bare","_law_end","front","behind","first","_law_row","rounds","later","is_made","PlainHost","script","one","NameRef","join","due","ahead","_law_due","_law_heard","without_end","min","wrong","SnobolError","match_compiled","match_plain","_law_part","turn"]:List String).map Str.ofString
def xd:List MS:=[(.asgD [dj,jL] [(.lst []),(.lst [(.loc cU)])]),(.while (.cmp .Gt (.call (.glb fU) [(.loc jL)]) (.cst (.int 0))) [(.asg dU (.lmeth 1 (.loc jL) [])),(.ite (.cmp .Eq (.item (.loc dU) (.cst (.int 0))) (.loc du)) [(.expr (.lmeth 2 (.loc jL) [(.lst [(.item (.loc dU) (.cst (.int 2))),(.item (.loc dU) (.cst (.int 1)))])]))] [(.expr (.lmeth 0 (.loc dj) [(.loc dU)]))])]),(.ret (some (.loc dj)))]
def q9:List MS:=[(.ret (some (.bop true [(.cmp .Eq (.item (.loc cU) (.cst (.int 0))) (.cst (.str (S [99,104,97,114,115])))),(.call (.glb lI) [(.item (.loc cU) (.cst (.int 1))),(.glb Lh)])])))]
def jC:List MS:=[(.asg dj (.lst [])),(.for dU (.loc io) [(.ite (.call (.glb lQ) [(.loc dU)]) [(.ite (.cmp .Eq (.item (.loc dU) (.cst (.int 1))) (.cst (.str (S [])))) [.cont] []),(.ite (.bop true [(.cmp .Gt (.call (.glb fU) [(.loc dj)]) (.cst (.int 0))),(.call (.glb lQ) [(.item (.loc dj) (.bin .Sub (.call (.glb fU) [(.loc dj)]) (.cst (.int 1))))])]) [(.asg dU (.tup [(.cst (.str (S [99,104,97,114,115]))),(.bin .Add (.item (.lmeth 1 (.loc dj) []) (.cst (.int 1))) (.item (.loc dU) (.cst (.int 1))))]))] [])] []),(.expr (.lmeth 0 (.loc dj) [(.loc dU)]))]),(.ret (some (.loc dj)))]
def nW:List MS:=[(.asgA (.loc cV) dY (.lst []))]
def oj:List MS:=[(.expr (.lmeth 0 (.attr (.loc cV) dY) [(.loc dS)])),(.ret (some (.bin .Sub (.call (.glb fU) [(.attr (.loc cV) dY)]) (.cst (.int 1)))))]
def kn:List MS:=[(.asg du (.item (.loc cU) (.cst (.int 0)))),(.ite (.cmp .Eq (.loc du) (.cst (.str (S [99,97,116])))) [(.for dU (.call (.glb hV) [(.call (.glb oF) [(.loc cU),(.cst (.str (S [99,97,116])))])]) [(.expr (.meth (.loc cV) Dj [(.loc dU)]))])] [(.ite (.cmp .Eq (.loc du) (.cst (.str (S [97,108,116])))) [(.expr (.meth (.loc cV) vc [(.call (.glb oF) [(.loc cU),(.cst (.str (S [97,108,116])))])]))] [(.ite (.cmp .In (.loc du) (.glb Eh)) [(.expr (.meth (.loc cV) mG [(.tup [(.glb Ie),(.loc du),(.ite (.cmp .Gt (.call (.glb fU) [(.loc cU)]) (.cst (.int 1))) (.item (.loc cU) (.cst (.int 1))) (.cst .none))])]))] [(.ite (.bop false [(.cmp .Eq (.loc du) (.cst (.str (S [97,114,98])))),(.cmp .Eq (.loc du) (.cst (.str (S [98,97,108]))))]) [(.expr (.meth (.loc cV) mG [(.tup [(.glb DY),(.loc du)])]))] [(.ite (.cmp .Eq (.loc du) (.cst (.str (S [97,114,98,110,111])))) [(.expr (.meth (.loc cV) vf [(.item (.loc cU) (.cst (.int 1)))]))] [(.ite (.cmp .In (.loc du) (.glb Hr)) [(.expr (.meth (.loc cV) mG [(.tup [(.loc du)])]))] [(.ite (.cmp .Eq (.loc du) (.cst (.str (S [99,117,114,115,111,114])))) [(.expr (.meth (.loc cV) mG [(.tup [(.glb Ac),(.item (.loc cU) (.cst (.int 1)))])]))] [(.ite (.cmp .Eq (.loc du) (.cst (.str (S [100,101,108,97,121])))) [(.expr (.meth (.loc cV) mG [(.tup [(.glb HG),(.item (.loc cU) (.cst (.int 1)))])]))] [(.expr (.meth (.loc cV) mG [(.tup [(.glb DU)])])),(.expr (.meth (.loc cV) Dj [(.item (.loc cU) (.cst (.int 1)))])),(.expr (.meth (.loc cV) mG [(.tup [(.ite (.cmp .Eq (.loc du) (.cst (.str (S [108,97,116,101,114])))) (.glb EG) (.glb DW)),(.item (.loc cU) (.cst (.int 2)))])]))])])])])])])])])]
def me:List MS:=[(.asg dj (.lst [])),(.for dS (.loc dY) [(.ite (.cmp .In (.item (.loc dS) (.cst (.int 0))) (.tup [(.glb yz),(.glb AR)])) [(.asg sJ (.item (.loc dS) (.cst (.int 1)))),(.while (.cmp .Eq (.item (.item (.loc dY) (.loc sJ)) (.cst (.int 0))) (.glb yz)) [(.asg sJ (.item (.item (.loc dY) (.loc sJ)) (.cst (.int 1))))]),(.asg dS (.tup [(.item (.loc dS) (.cst (.int 0))),(.loc sJ)]))] []),(.expr (.lmeth 0 (.loc dj) [(.loc dS)]))]),(.ret (some (.loc dj)))]
def oK:List MS:=[(.asg mH (.call (.glb tL) [])),(.expr (.meth (.loc mH) Dj [(.loc cU)])),(.expr (.meth (.loc mH) mG [(.tup [(.glb yX)])])),(.ret (some (.call (.glb sN) [(.attr (.loc mH) dY)])))]
def sF:List MS:=[(.asgA (.loc cV) du (.loc du)),(.asgA (.loc cV) g9 (.loc g9)),(.asgA (.loc cV) iS (.loc iS))]
def uX:List MS:=[(.ret (some (.call (.glb lI) [(.loc dN),(.glb AS)])))]
def Cv:List MS:=[(.ite (.bop false [(.bop true [(.cmp .NotIn (.item (.loc cU) (.cst (.int 0))) (.glb ue)),(.cmp .NotIn (.item (.loc cU) (.cst (.int 0))) (.glb EH))]),(.not (.call (.glb uR) [(.item (.loc cU) (.cst (.int 1)))]))]) [(.ret (some (.loc cU)))] []),(.asg jb (.meth (.loc dt) tj [(.item (.item (.loc cU) (.cst (.int 1))) (.cst (.int 1)))])),(.ite (.call (.glb t9) [(.loc jb)]) [(.ret (some (.cst .none)))] []),(.ite (.cmp .In (.item (.loc cU) (.cst (.int 0))) (.glb ue)) [(.ret (some (.tup [(.item (.loc cU) (.cst (.int 0))),(.call (.glb tK) [(.loc jb),(.item (.loc cU) (.cst (.int 0)))])])))] []),(.ret (some (.tup [(.item (.loc cU) (.cst (.int 0))),(.call (.glb tX) [(.loc jb),(.item (.loc cU) (.cst (.int 0)))])])))]
def wr:List MS:=[(.asg gJ (.bin .Add (.loc dW) (.call (.glb fU) [(.loc ia)]))),(.ret (some (.ite (.cmp .Eq (.slice (.loc cS) (some (.loc dW)) (some (.loc gJ))) (.loc ia)) (.loc gJ) (.cst .none))))]
def BU:List MS:=[(.ret (some (.ite (.cmp .LtE (.bin .Add (.loc dW) (.loc yB)) (.call (.glb fU) [(.loc cS)])) (.bin .Add (.loc dW) (.loc yB)) (.cst .none))))]
def Bd:List MS:=[(.ret (some (.call (.glb fU) [(.loc cS)])))]
def ES:List MS:=[(.ret (some (.ite (.bop true [(.cmp .Lt (.loc dW) (.call (.glb fU) [(.loc cS)])),(.cmp .In (.item (.loc cS) (.loc dW)) (.loc AI))]) (.bin .Add (.loc dW) (.cst (.int 1))) (.cst .none))))]
def BD:List MS:=[(.ite (.cmp .Eq (.loc du) (.cst (.str (S [99,104,97,114,115])))) [(.ret (some (.call (.glb xL) [(.loc cS),(.loc dW),(.loc dN)])))] []),(.ite (.cmp .Eq (.loc du) (.cst (.str (S [108,101,110])))) [(.ret (some (.call (.glb BL) [(.loc cS),(.loc dW),(.loc dN)])))] []),(.ite (.cmp .Eq (.loc du) (.cst (.str (S [112,111,115])))) [(.ret (some (.call (.glb BG) [(.loc dW),(.loc dN)])))] []),(.ite (.cmp .Eq (.loc du) (.cst (.str (S [114,112,111,115])))) [(.ret (some (.call (.glb zi) [(.loc cS),(.loc dW),(.loc dN)])))] []),(.ite (.cmp .Eq (.loc du) (.cst (.str (S [116,97,98])))) [(.ret (some (.call (.glb BW) [(.loc cS),(.loc dW),(.loc dN)])))] []),(.ite (.cmp .Eq (.loc du) (.cst (.str (S [114,116,97,98])))) [(.ret (some (.call (.glb yi) [(.loc cS),(.loc dW),(.loc dN)])))] []),(.ite (.cmp .Eq (.loc du) (.cst (.str (S [97,110,121])))) [(.ret (some (.call (.glb DJ) [(.loc cS),(.loc dW),(.loc dN)])))] []),(.ite (.cmp .Eq (.loc du) (.cst (.str (S [110,111,116,97,110,121])))) [(.ret (some (.call (.glb xH) [(.loc cS),(.loc dW),(.loc dN)])))] []),(.ite (.cmp .Eq (.loc du) (.cst (.str (S [115,112,97,110])))) [(.ret (some (.call (.glb zw) [(.loc cS),(.loc dW),(.loc dN)])))] []),(.ret (some (.call (.glb wG) [(.loc cS),(.loc dW),(.loc dN)])))]
def wx:List MS:=[(.ret (some (.ite (.cmp .Eq (.item (.loc cU) (.cst (.int 0))) (.cst (.str (S [114,101,109])))) (.call (.glb BF) [(.loc cS)]) (.call (.glb A9) [(.item (.loc cU) (.cst (.int 0))),(.loc cS),(.loc dW),(.item (.loc cU) (.cst (.int 1)))]))))]
def yn:List MS:=[(.asgA (.loc cV) dY (.loc dY)),(.asgA (.loc cV) om (.loc om)),(.asgA (.loc cV) dW (.loc dW)),(.asgA (.loc cV) dq (.loc dq)),(.asgA (.loc cV) iH (.loc iH)),(.asgA (.loc cV) mZ (.loc mZ))]
def uM:List MS:=[(.ret (some (.call (.glb D9) [(.attr (.loc cV) dY),(.loc om),(.attr (.loc cV) dW),(.attr (.loc cV) dq),(.attr (.loc cV) iH),(.attr (.loc cV) mZ)])))]
def vB:List MS:=[(.asgA (.loc cV) cS (.loc cS)),(.asgA (.loc cV) dt (.loc dt)),(.asgA (.loc cV) hG (.lst []))]
def qQ:List MS:=[(.asg dQ (.call (.glb D9) [(.loc dY),(.cst (.int 0)),(.loc dB),(.cst .none),(.cst .none),(.cst .none)])),(.while (.cmp .IsNot (.loc dQ) (.cst .none)) [(.expr (.meth (.attr (.loc cV) dt) Ef [])),(.asg dS (.item (.attr (.loc dQ) dY) (.attr (.loc dQ) om))),(.ite (.bop true [(.cmp .Eq (.item (.loc dS) (.cst (.int 0))) (.glb yX)),(.cmp .Is (.attr (.loc dQ) mZ) (.cst .none))]) [(.ret (some (.tup [(.glb H6),(.loc dQ)])))] []),(.ite (.cmp .Eq (.item (.loc dS) (.cst (.int 0))) (.glb FD)) [(.ret (some (.tup [(.glb yN),(.cst .none)])))] []),(.ite (.not (.meth (.loc cV) IU [(.loc dS),(.loc dQ)])) [(.asg dQ (.meth (.loc cV) yP [])),(.ite (.bop true [(.cmp .IsNot (.loc dQ) (.cst .none)),(.cmp .Is (.attr (.loc dQ) dY) (.cst .none))]) [(.ret (some (.tup [(.glb yN),(.cst .none)])))] [])] [])]),(.ret (some (.tup [(.glb CV),(.cst .none)])))]
def qD:List MS:=[(.ret (some (.ite (.cmp .Gt (.call (.glb fU) [(.attr (.loc cV) hG)]) (.cst (.int 0))) (.lmeth 1 (.attr (.loc cV) hG) []) (.cst .none))))]
def u7:List MS:=[(.asg iI (.item (.loc dS) (.cst (.int 0)))),(.ite (.cmp .Eq (.loc iI) (.glb Ie)) [(.ret (some (.meth (.loc cV) yq [(.loc dS),(.loc dQ)])))] []),(.ite (.cmp .Eq (.loc iI) (.glb AR)) [(.expr (.lmeth 0 (.attr (.loc cV) hG) [(.meth (.loc dQ) tq [(.item (.loc dS) (.cst (.int 1)))])]))] [(.ite (.cmp .Eq (.loc iI) (.glb yz)) [(.asgA (.loc dQ) om (.item (.loc dS) (.cst (.int 1)))),(.ret (some (.cst (.bool true))))] [(.ite (.cmp .Eq (.loc iI) (.glb DU)) [(.asgA (.loc dQ) iH (.tup [(.attr (.loc dQ) iH),(.attr (.loc dQ) dW)]))] [(.ite (.cmp .In (.loc iI) (.tup [(.glb EG),(.glb DW),(.glb En)])) [(.ite (.not (.meth (.loc cV) FF [(.loc dS),(.loc dQ)])) [(.ret (some (.cst (.bool false))))] [])] [(.ite (.cmp .Eq (.loc iI) (.glb Ac)) [(.ite (.not (.meth (.attr (.loc cV) dt) ow [(.item (.loc dS) (.cst (.int 1))),(.attr (.loc dQ) dW)])) [(.ret (some (.cst (.bool false))))] [])] [(.ret (some (.meth (.loc cV) re [(.loc dS),(.loc dQ)])))])])])])]),(.augA (.loc dQ) om .Add (.cst (.int 1))),(.ret (some (.cst (.bool true))))]
def qe:List MS:=[(.asg dN (.item (.loc dS) (.cst (.int 2)))),(.ite (.call (.glb lI) [(.loc dN),(.glb AS)]) [(.asg cU (.call (.glb ug) [(.tup [(.item (.loc dS) (.cst (.int 1))),(.loc dN)]),(.attr (.loc cV) dt)])),(.ite (.cmp .Is (.loc cU) (.cst .none)) [(.ret (some (.cst (.bool false))))] []),(.asg dN (.item (.loc cU) (.cst (.int 1))))] []),(.asg gJ (.call (.glb qV) [(.tup [(.item (.loc dS) (.cst (.int 1))),(.loc dN)]),(.attr (.loc cV) cS),(.attr (.loc dQ) dW)])),(.ite (.cmp .Is (.loc gJ) (.cst .none)) [(.ret (some (.cst (.bool false))))] []),(.asgA (.loc dQ) dW (.loc gJ)),(.augA (.loc dQ) om .Add (.cst (.int 1))),(.ret (some (.cst (.bool true))))]
def tJ:List MS:=[(.asgT [iH,dB] (.attr (.loc dQ) iH)),(.asgA (.loc dQ) iH (.loc iH)),(.asg ia (.slice (.attr (.loc cV) cS) (some (.loc dB)) (some (.attr (.loc dQ) dW)))),(.ite (.cmp .Eq (.item (.loc dS) (.cst (.int 0))) (.glb En)) [(.ret (some (.cmp .Gt (.attr (.loc dQ) dW) (.loc dB))))] []),(.ite (.cmp .Eq (.item (.loc dS) (.cst (.int 0))) (.glb DW)) [(.ret (some (.meth (.attr (.loc cV) dt) ow [(.item (.loc dS) (.cst (.int 1))),(.loc ia)])))] []),(.asgA (.loc dQ) dq (.tup [(.attr (.loc dQ) dq),(.tup [(.item (.loc dS) (.cst (.int 1))),(.loc ia)])])),(.ret (some (.cst (.bool true))))]
def tN:List MS:=[(.asg iI (.item (.loc dS) (.cst (.int 0)))),(.ite (.cmp .Eq (.loc iI) (.glb JF)) [(.ret (some (.cst (.bool false))))] []),(.ite (.cmp .Eq (.loc iI) (.glb DY)) [(.ret (some (.meth (.loc cV) wu [(.loc dQ),(.call (.glb BN) [(.item (.loc dS) (.cst (.int 1))),(.attr (.loc cV) cS),(.attr (.loc dQ) dW),(.cst .none)])])))] []),(.ite (.cmp .Eq (.loc iI) (.glb HG)) [(.ret (some (.meth (.loc cV) Fs [(.item (.loc dS) (.cst (.int 1))),(.loc dQ)])))] []),(.ite (.cmp .Eq (.loc iI) (.glb yX)) [.oth,(.ret (some (.cst (.bool true))))] []),(.ite (.cmp .Eq (.loc iI) (.glb FZ)) [(.expr (.lmeth 0 (.attr (.loc cV) hG) [(.call (.glb D9) [(.cst .none),(.cst (.int 0)),(.cst (.int 0)),(.cst .none),(.cst .none),(.cst .none)])]))] [(.ite (.cmp .Eq (.loc iI) (.glb Cf)) [(.expr (.lmeth 0 (.attr (.loc cV) hG) [(.meth (.loc dQ) tq [(.attr (.loc dQ) om)])]))] [])]),(.augA (.loc dQ) om .Add (.cst (.int 1))),(.ret (some (.cst (.bool true))))]
def oO:List MS:=[(.ite (.cmp .Eq (.call (.glb fU) [(.loc qc)]) (.cst (.int 0))) [(.ret (some (.cst (.bool false))))] []),(.augA (.loc dQ) om .Add (.cst (.int 1))),(.for gJ .oth [(.asg re (.meth (.loc dQ) tq [(.attr (.loc dQ) om)])),(.asgA (.loc re) dW (.loc gJ)),(.expr (.lmeth 0 (.attr (.loc cV) hG) [(.loc re)]))]),(.asgA (.loc dQ) dW (.item (.loc qc) (.cst (.int 0)))),(.ret (some (.cst (.bool true))))]
def oM:List MS:=[(.asg dj (.lst [])),(.while (.cmp .IsNot (.loc dq) (.cst .none)) [(.asgT [dq,Dn] (.loc dq)),(.expr (.lmeth 0 (.loc dj) [(.loc Dn)]))]),(.expr (.lmeth 3 (.loc dj) [])),(.ret (some (.loc dj)))]
def mu:List MS:=[(.for dB (.call (.glb gL) [(.ite (.loc cT) (.cst (.int 1)) (.bin .Add (.call (.glb fU) [(.loc cS)]) (.cst (.int 1))))]) [(.asgT [A8,dQ] (.meth (.call (.glb GS) [(.loc cS),(.loc dt)]) Ku [(.loc dY),(.loc dB)])),(.ite (.cmp .Eq (.loc A8) (.glb H6)) [(.ret (some (.tup [(.loc dB),(.attr (.loc dQ) dW),(.call (.glb vV) [(.attr (.loc dQ) dq)])])))] []),(.ite (.cmp .Eq (.loc A8) (.glb yN)) [(.ret (some (.cst .none)))] [])]),(.ret (some (.cst .none)))]
def qE:List MS:=[(.ret (some (.call (.glb sC) [(.call (.glb pa) [(.loc cU)]),(.loc cS),(.loc cT),(.loc dt)])))]
def qp:List MS:=[(.asgA (.loc cV) gu (.loc gu)),(.asgA (.loc cV) dJ (.loc dJ)),(.asgA (.loc cV) fS (.loc fS)),(.asgA (.loc cV) gK (.cst (.int 0))),(.asgA (.loc cV) eP (.lst []))]
def n8:List MS:=[(.ite (.cmp .In (.attr (.loc eH) iS) (.attr (.loc cV) fS)) [(.ret (some (.cst (.bool false))))] []),(.asgI (.attr (.loc cV) gu) (.attr (.loc eH) iS) (.loc jb)),(.expr (.lmeth 0 (.attr (.loc cV) eP) [(.tup [(.attr (.loc eH) iS),(.loc jb)])])),(.ret (some (.cst (.bool true))))]
def gf:List MS:=[(.augA (.loc cV) gK .Add (.cst (.int 1))),(.ite (.cmp .Gt (.attr (.loc cV) gK) (.attr (.loc cV) dJ)) [.oth] [])]
def nG:List MS:=[(.for dB (.call (.glb gL) [(.ite (.loc cT) (.cst (.int 1)) (.bin .Add (.call (.glb fU) [(.loc cS)]) (.cst (.int 1))))]) [(.asg dj (.call (.glb yE) [(.loc cU),(.loc cS),(.loc dB),(.loc dt)])),(.ite (.cmp .IsNot (.loc dj) (.cst .none)) [(.ret (some (.ite (.cmp .Eq (.loc dj) (.glb qg)) (.cst .none) (.loc dj))))] [])]),(.ret (some (.cst .none)))]
def yd:List MS:=[(.asg dj (.call (.glb Gh) [(.loc cU),(.loc cS),(.loc dB),(.loc dt)])),(.ret (some (.ite (.bop false [(.cmp .Is (.loc dj) (.cst .none)),(.cmp .Eq (.loc dj) (.glb qg))]) (.loc dj) (.tup [(.loc dB),(.item (.loc dj) (.cst (.int 0))),(.item (.loc dj) (.cst (.int 1)))]))))]
def Aj:List MS:=[(.asg gh (.lst [(.tup [(.tup [(.loc cU),(.cst .none)]),(.loc dB),(.tup [])])])),(.while (.cmp .Gt (.call (.glb fU) [(.loc gh)]) (.cst (.int 0))) [(.asg dQ (.lmeth 1 (.loc gh) [])),(.ite (.cmp .Is (.loc dQ) (.cst .none)) [(.ret (some (.glb qg)))] []),(.asgT [fG,dW,dq] (.loc dQ)),(.while (.cmp .IsNot (.loc fG) (.cst .none)) [(.expr (.meth (.loc dt) Ef [])),(.asg dQ (.call (.glb yj) [(.loc fG),(.loc dW),(.loc dq),(.loc cS),(.loc gh),(.loc dt)])),(.ite (.cmp .Is (.loc dQ) (.cst .none)) [.brk] []),(.ite (.cmp .Eq (.loc dQ) (.glb qg)) [(.ret (some (.glb qg)))] []),(.asgT [fG,dW,dq] (.loc dQ))]),(.ite (.cmp .Is (.loc fG) (.cst .none)) [(.ret (some (.tup [(.loc dW),(.call (.glb Iz) [(.loc dq)])])))] [])]),(.ret (some (.cst .none)))]
def x8:List MS:=[(.asgT [fL,fy] (.loc fG)),(.asg du (.item (.loc fL) (.cst (.int 0)))),(.ite (.cmp .In (.loc du) (.tup [(.cst (.str (S [99,97,116]))),(.cst (.str (S [97,108,116]))),(.cst (.str (S [97,114,98,110,111]))),(.cst (.str (S [108,97,116,101,114]))),(.cst (.str (S [110,111,119])))])) [(.ret (some (.call (.glb DS) [(.loc fL),(.loc fy),(.loc dW),(.loc dq),(.loc gh)])))] []),(.ite (.cmp .Eq (.slice (.loc du) none (some (.cst (.int 4)))) (.cst (.str (S [101,110,100,32])))) [(.ret (some (.call (.glb Cq) [(.loc fL),(.loc fy),(.loc dW),(.loc dq),(.loc cS),(.loc gh),(.loc dt)])))] []),(.ite (.cmp .Eq (.loc du) (.cst (.str (S [99,117,114,115,111,114])))) [(.ret (some (.ite (.meth (.loc dt) ow [(.item (.loc fL) (.cst (.int 1))),(.loc dW)]) (.tup [(.loc fy),(.loc dW),(.loc dq)]) (.cst .none))))] []),(.ite (.cmp .Eq (.loc du) (.cst (.str (S [100,101,108,97,121])))) [(.asg jb (.meth (.loc dt) tj [(.item (.loc fL) (.cst (.int 1)))])),(.ret (some (.ite (.call (.glb t9) [(.loc jb)]) (.cst .none) (.tup [(.tup [(.call (.glb vO) [(.loc jb)]),(.loc fy)]),(.loc dW),(.loc dq)]))))] []),(.ite (.cmp .In (.loc du) (.tup [(.cst (.str (S [102,101,110,99,101]))),(.cst (.str (S [97,98,111,114,116]))),(.cst (.str (S [102,97,105,108]))),(.cst (.str (S [115,117,99,99,101,101,100])))])) [(.ret (some (.call (.glb Bg) [(.loc fG),(.loc dW),(.loc dq),(.loc gh)])))] []),(.ret (some (.call (.glb HB) [(.loc fL),(.loc fy),(.loc dW),(.loc dq),(.loc cS),(.loc gh),(.loc dt)])))]
def Ek:List MS:=[(.asg du (.item (.loc fL) (.cst (.int 0)))),(.ite (.cmp .Eq (.loc du) (.cst (.str (S [99,97,116])))) [(.ret (some (.tup [(.tup [(.item (.loc fL) (.cst (.int 1))),(.tup [(.item (.loc fL) (.cst (.int 2))),(.loc fy)])]),(.loc dW),(.loc dq)])))] []),(.ite (.cmp .Eq (.loc du) (.cst (.str (S [97,108,116])))) [(.expr (.lmeth 0 (.loc gh) [(.tup [(.tup [(.item (.loc fL) (.cst (.int 2))),(.loc fy)]),(.loc dW),(.loc dq)])])),(.ret (some (.tup [(.tup [(.item (.loc fL) (.cst (.int 1))),(.loc fy)]),(.loc dW),(.loc dq)])))] []),(.ite (.cmp .Eq (.loc du) (.cst (.str (S [97,114,98,110,111])))) [(.expr (.lmeth 0 (.loc gh) [(.tup [(.tup [(.item (.loc fL) (.cst (.int 1))),(.tup [(.tup [(.cst (.str (S [101,110,100,32,114,111,117,110,100]))),(.loc fL),(.loc dW)]),(.loc fy)])]),(.loc dW),(.loc dq)])])),(.ret (some (.tup [(.loc fy),(.loc dW),(.loc dq)])))] []),(.ret (some (.tup [(.tup [(.item (.loc fL) (.cst (.int 1))),(.tup [(.tup [(.bin .Add (.cst (.str (S [101,110,100,32]))) (.loc du)),(.item (.loc fL) (.cst (.int 2))),(.loc dW)]),(.loc fy)])]),(.loc dW),(.loc dq)])))]
def BR:List MS:=[(.asgT [du,dN,dB] (.loc fL)),(.ite (.cmp .Eq (.loc du) (.cst (.str (S [101,110,100,32,108,97,116,101,114])))) [(.ret (some (.tup [(.loc fy),(.loc dW),(.bin .Add (.loc dq) (.tup [(.tup [(.loc dN),(.slice (.loc cS) (some (.loc dB)) (some (.loc dW)))])]))])))] []),(.ite (.cmp .Eq (.loc du) (.cst (.str (S [101,110,100,32,110,111,119])))) [(.ret (some (.ite (.meth (.loc dt) ow [(.loc dN),(.slice (.loc cS) (some (.loc dB)) (some (.loc dW)))]) (.tup [(.loc fy),(.loc dW),(.loc dq)]) (.cst .none))))] []),(.ret (some (.ite (.cmp .Eq (.loc dW) (.loc dB)) (.cst .none) (.tup [(.tup [(.loc dN),(.loc fy)]),(.loc dW),(.loc dq)]))))]
def Cr:List MS:=[(.asgD [du,fy] [(.item (.item (.loc fG) (.cst (.int 0))) (.cst (.int 0))),(.item (.loc fG) (.cst (.int 1)))]),(.ite (.cmp .Eq (.loc du) (.cst (.str (S [97,98,111,114,116])))) [(.ret (some (.glb qg)))] []),(.ite (.cmp .Eq (.loc du) (.cst (.str (S [102,97,105,108])))) [(.ret (some (.cst .none)))] []),(.expr (.lmeth 0 (.loc gh) [(.ite (.cmp .Eq (.loc du) (.cst (.str (S [102,101,110,99,101])))) (.cst .none) (.tup [(.loc fG),(.loc dW),(.loc dq)]))])),(.ret (some (.tup [(.loc fy),(.loc dW),(.loc dq)])))]
def G9:List MS:=[(.asg du (.item (.loc fL) (.cst (.int 0)))),(.ite (.cmp .Eq (.loc du) (.cst (.str (S [97,114,98])))) [(.ite (.cmp .Lt (.loc dW) (.call (.glb fU) [(.loc cS)])) [(.expr (.lmeth 0 (.loc gh) [(.tup [(.tup [(.loc fL),(.loc fy)]),(.bin .Add (.loc dW) (.cst (.int 1))),(.loc dq)])]))] []),(.ret (some (.tup [(.loc fy),(.loc dW),(.loc dq)])))] []),(.ite (.cmp .Eq (.loc du) (.cst (.str (S [98,97,108])))) [(.asg qc (.call (.glb zn) [(.loc cS),(.loc dW)])),(.for gJ .oth [(.expr (.lmeth 0 (.loc gh) [(.tup [(.loc fy),(.loc gJ),(.loc dq)])]))]),(.ret (some (.ite (.cmp .Gt (.call (.glb fU) [(.loc qc)]) (.cst (.int 0))) (.tup [(.loc fy),(.item (.loc qc) (.cst (.int 0))),(.loc dq)]) (.cst .none))))] []),(.asg vn (.call (.glb ug) [(.loc fL),(.loc dt)])),(.ite (.cmp .Is (.loc vn) (.cst .none)) [(.ret (some (.cst .none)))] []),(.asg gJ (.call (.glb qV) [(.loc vn),(.loc cS),(.loc dW)])),(.ret (some (.ite (.cmp .Is (.loc gJ) (.cst .none)) (.cst .none) (.tup [(.loc fy),(.loc gJ),(.loc dq)]))))]
def yJ:List MS:=[(.ite (.cmp .Gt (.call (.glb fU) [(.item (.loc ey) (.cst (.int 0)))]) (.cst (.int 0))) [(.ret (some (.bin .Mod (.lmeth 1 (.item (.loc ey) (.cst (.int 0))) [(.cst (.int 0))]) (.loc dJ))))] []),(.asgI (.loc ey) (.cst (.int 1)) (.bin .Mod (.bin .Add (.bin .Mult (.item (.loc ey) (.cst (.int 1))) (.cst (.int 4093))) (.cst (.int 12289))) (.cst (.int 1000003)))),(.ret (some (.bin .Mod (.bin .FloorDiv (.item (.loc ey) (.cst (.int 1))) (.cst (.int 8))) (.loc dJ))))]
def zG:List MS:=[(.asg lG (.call (.glb km) [(.loc ey),(.cst (.int 8))])),(.asg lc (.lst [(.tup [(.cst (.str (S [99,104,97,114,115]))),(.cst (.str (S [97])))]),(.tup [(.cst (.str (S [99,104,97,114,115]))),(.cst (.str (S [98])))]),(.tup [(.cst (.str (S [108,101,110]))),(.cst (.int 1))]),(.tup [(.cst (.str (S [97,110,121]))),(.cst (.str (S [97,98])))]),(.tup [(.cst (.str (S [102,101,110,99,101])))]),(.tup [(.cst (.str (S [97,98,111,114,116])))]),(.tup [(.cst (.str (S [102,97,105,108])))]),(.tup [(.cst (.str (S [108,101,110]))),(.cst (.int 0))])])),(.asg dQ (.call (.glb km) [(.loc ey),(.cst (.int 4))])),(.ite (.cmp .Eq (.loc dQ) (.cst (.int 1))) [(.ret (some (.tup [(.cst (.str (S [110,111,119]))),(.item (.loc lc) (.loc lG)),(.loc eH)])))] []),(.ite (.cmp .Eq (.loc dQ) (.cst (.int 2))) [(.ret (some (.tup [(.cst (.str (S [108,97,116,101,114]))),(.item (.loc lc) (.loc lG)),(.loc eH)])))] []),(.ret (some (.ite (.cmp .Eq (.loc dQ) (.cst (.int 3))) (.tup [(.cst (.str (S [99,117,114,115,111,114]))),(.loc eH)]) (.item (.loc lc) (.loc lG)))))]
def BZ:List MS:=[(.ite (.cmp .Eq (.item (.loc dU) (.cst (.int 0))) (.cst (.str (S [102,97,105,108])))) [(.ret (some (.cst .none)))] []),(.asg gJ (.bin .Add (.loc dW) (.ite (.cmp .Eq (.item (.loc dU) (.cst (.int 0))) (.cst (.str (S [108,101,110])))) (.item (.loc dU) (.cst (.int 1))) (.cst (.int 1))))),(.ret (some (.ite (.bop false [(.cmp .Gt (.loc gJ) (.call (.glb fU) [(.loc cS)])),(.bop true [(.cmp .NotEq (.item (.loc dU) (.cst (.int 0))) (.cst (.str (S [108,101,110])))),(.cmp .NotIn (.item (.loc cS) (.loc dW)) (.item (.loc dU) (.cst (.int 1))))])]) (.cst .none) (.loc gJ))))]
def uy:List MS:=[(.asgD [lE,gm] [(.lst []),(.cst (.bool false))]),(.for dU (.loc io) [(.asgD [nO,gJ] [(.ite (.cmp .In (.item (.loc dU) (.cst (.int 0))) (.tup [(.cst (.str (S [110,111,119]))),(.cst (.str (S [108,97,116,101,114])))])) (.item (.loc dU) (.cst (.int 1))) (.loc dU)),(.loc dW)]),(.ite (.cmp .Eq (.item (.loc nO) (.cst (.int 0))) (.cst (.str (S [97,98,111,114,116])))) [(.ret (some (.cst (.str (S [111,118,101,114])))))] []),(.ite (.cmp .Eq (.item (.loc nO) (.cst (.int 0))) (.cst (.str (S [102,101,110,99,101])))) [(.asg gm (.cst (.bool true)))] [(.ite (.cmp .Eq (.item (.loc nO) (.cst (.int 0))) (.cst (.str (S [99,117,114,115,111,114])))) [(.expr (.lmeth 0 (.loc eP) [(.tup [(.cst (.str (S [75]))),(.loc dW)])]))] [(.asg gJ (.call (.glb yO) [(.loc nO),(.loc cS),(.loc dW)])),(.ite (.cmp .Is (.loc gJ) (.cst .none)) [(.ret (some (.ite (.loc gm) (.cst (.str (S [111,118,101,114]))) (.cst .none))))] [])])]),(.ite (.cmp .Eq (.item (.loc dU) (.cst (.int 0))) (.cst (.str (S [110,111,119])))) [(.expr (.lmeth 0 (.loc eP) [(.tup [(.cst (.str (S [75]))),(.slice (.loc cS) (some (.loc dW)) (some (.loc gJ)))])]))] []),(.ite (.cmp .Eq (.item (.loc dU) (.cst (.int 0))) (.cst (.str (S [108,97,116,101,114])))) [(.expr (.lmeth 0 (.loc lE) [(.tup [(.cst (.str (S [75]))),(.slice (.loc cS) (some (.loc dW)) (some (.loc gJ)))])]))] []),(.asg dW (.loc gJ))]),(.ret (some (.tup [(.loc dW),(.loc lE),(.loc gm)])))]
def ut:List MS:=[(.asg eP (.lst [])),(.for dB (.call (.glb gL) [(.ite (.loc cT) (.cst (.int 1)) (.bin .Add (.call (.glb fU) [(.loc cS)]) (.cst (.int 1))))]) [(.asg mS (.call (.glb rI) [(.loc gY),(.loc cS),(.loc dB),(.loc eP)])),(.ite (.cmp .Eq (.loc mS) (.cst (.str (S [111,118,101,114])))) [(.ret (some (.tup [(.tup [(.cst (.str (S [110,111,110,101])))]),(.loc eP)])))] []),(.ite (.cmp .IsNot (.loc mS) (.cst .none)) [(.asg kE (.lst [])),(.asg oL (.call (.glb rI) [(.loc gV),(.loc cS),(.item (.loc mS) (.cst (.int 0))),(.loc kE)])),(.ite (.cmp .Is (.loc oL) (.cst .none)) [(.ret (some (.tup [(.tup [(.cst (.str (S [114,111,117,110,100]))),(.loc kE)]),(.loc eP)])))] []),(.ite (.cmp .Eq (.loc oL) (.cst (.str (S [111,118,101,114])))) [(.ret (some (.tup [(.tup [(.cst (.str (S [110,111,110,101])))]),(.bin .Add (.loc eP) (.loc kE))])))] []),(.ret (some (.tup [(.tup [(.cst (.str (S [109,101,116]))),(.loc dB),(.item (.loc oL) (.cst (.int 0))),(.bin .Add (.item (.loc mS) (.cst (.int 1))) (.item (.loc oL) (.cst (.int 1))))]),(.bin .Add (.loc eP) (.loc kE))])))] [])]),(.ret (some (.tup [(.tup [(.cst (.str (S [110,111,110,101])))]),(.loc eP)])))]
def gl:List MS:=[(.asg dt (.call (.glb w9) [.dct,(.loc dJ),(.lst [])])),.oth,(.ite (.cmp .Is (.loc dj) (.cst .none)) [(.ret (some (.tup [(.tup [(.cst (.str (S [110,111,110,101])))]),(.attr (.loc dt) eP)])))] []),(.ret (some (.tup [(.tup [(.cst (.str (S [109,101,116]))),(.item (.loc dj) (.cst (.int 0))),(.item (.loc dj) (.cst (.int 1))),.oth]),(.attr (.loc dt) eP)])))]
def HW:List (Nat×List Nm×List MS):=[(23,[cU,du],xd),(30,[cU],q9),(37,[io],jC),(51,[cV],nW),(58,[cV,dS],oj),(65,[cV,cU],kn),(93,[dY],me),(100,[cU],oK),(193,[cV,du,g9,iS],sF),(279,[dN],uX),(286,[cU,dt],Cv),(293,[cS,dW,ia],wr),(300,[cS,dW,yB],BU),(335,[cS],Bd),(342,[cS,dW,AI],ES),(398,[du,cS,dW,dN],BD),(405,[cU,cS,dW],wx),(426,[cV,dY,om,dW,dq,iH,mZ],yn),(433,[cV,om],uM),(454,[cV,cS,dt],vB),(461,[cV,dY,dB],qQ),(468,[cV],qD),(475,[cV,dS,dQ],u7),(482,[cV,dS,dQ],qe),(489,[cV,dS,dQ],tJ),(496,[cV,dS,dQ],tN),(503,[cV,dQ,qc],oO),(524,[dq],oM),(531,[dY,cS,cT,dt],mu),(538,[cU,cS,cT,dt],qE),(552,[cV,gu,dJ,fS],qp),(566,[cV,eH,jb],n8),(573,[cV],gf),(587,[cU,cS,cT,dt],nG),(594,[cU,cS,dB,dt],yd),(601,[cU,cS,dB,dt],Aj),(608,[fG,dW,dq,cS,gh,dt],x8),(615,[fL,fy,dW,dq,gh],Ek),(622,[fL,fy,dW,dq,cS,gh,dt],BR),(629,[fG,dW,dq,gh],Cr),(636,[fL,fy,dW,dq,cS,gh,dt],G9),(643,[ey,dJ],yJ),(650,[ey,eH],zG),(657,[dU,cS,dW],BZ),(664,[io,cS,dW,eP],uy),(671,[gY,gV,cS,cT],ut),(676,[dR,cU,cS,cT,dJ],gl)]
def Ag:List (Nat×V):=[(19,.str false "one"),(20,.str false "ways"),(30,.str false "split"),(32,.str false "jump"),(25,.str false "mark"),(26,.str false "name"),(27,.str false "set"),(34,.str false "gain"),(23,.str false "place"),(24,.str false "ask"),(129,.str false "fence"),(125,.str false "fail"),(112,.str false "abort"),(130,.str false "succeed"),(38,.str false "done"),(17,.tup [.str false "chars",.str false "len",.str false "pos",.str false "rpos",.str false "tab",.str false "rtab",.str false "any",.str false "notany",.str false "span",.str false "break",.str false "rem"]),(22,.tup [.str false "fence",.str false "fail",.str false "abort",.str false "succeed"]),(14,.val (.ref 23)),(9,.val (.ref 30)),(13,.val (.ref 37)),(37,.val (.ref 82)),(39,.val (.ref 93)),(138,.val (.ref 100)),(46,.val (.ref 133)),(64,.val (.ref 154)),(65,.val (.ref 175)),(178,.val (.ref 196)),(72,.val (.ref 207)),(52,.val (.ref 214)),(57,.val (.ref 221)),(58,.val (.ref 228)),(61,.val (.ref 235)),(59,.val (.ref 242)),(63,.val (.ref 249)),(68,.tup [.str false "len",.str false "pos",.str false "rpos",.str false "tab",.str false "rtab"]),(69,.tup [.str false "any",.str false "notany",.str false "span",.str false "break"]),(62,.int false 64),(73,.val (.ref 258)),(74,.val (.ref 265)),(156,.val (.ref 272)),(70,.val (.ref 279)),(123,.val (.ref 286)),(85,.str false "("),(86,.str false ")"),(88,.val (.ref 293)),(89,.val (.ref 300)),(90,.val (.ref 307)),(91,.val (.ref 314)),(92,.val (.ref 321)),(93,.val (.ref 328)),(98,.val (.ref 335)),(94,.val (.ref 342)),(95,.val (.ref 349)),(81,.val (.ref 356)),(96,.val (.ref 363)),(97,.val (.ref 370)),(100,.val (.ref 377)),(87,.val (.ref 384)),(101,.val (.ref 391)),(99,.val (.ref 398)),(124,.val (.ref 405)),(127,.val (.ref 412)),(111,.int false 0),(116,.int false 1),(113,.int false 2),(106,.val (.ref 436)),(134,.val (.ref 513)),(136,.val (.ref 524)),(137,.val (.ref 531)),(175,.val (.ref 576)),(147,.str false "lost"),(146,.val (.ref 594)),(148,.val (.ref 601)),(151,.val (.ref 608)),(154,.val (.ref 615)),(155,.val (.ref 622)),(157,.val (.ref 629)),(158,.val (.ref 636)),(162,.val (.ref 643)),(167,.val (.ref 657)),(171,.val (.ref 664)),(182,.val (.ref 671)),(183,.val (.ref 676)),(4,.bi 0),(6,.bi 1),(7,.bi 2),(66,.bi 3),(82,.bi 4),(56,.bi 5),(83,.bi 6),(185,.bi 7),(187,.val (.ref 120)),(188,.val (.ref 538)),(189,.val (.ref 587)),(190,.val (.ref 650))]
def sH:List (Nat×Nat×List (Nat×Nat)):=[(82,51,[(18,58),(15,65),(16,72),(21,79)]),(196,193,[]),(436,426,[(119,433)]),(513,454,[(135,461),(115,468),(114,475),(118,482),(120,489),(122,496),(126,503),(128,510)]),(576,552,[(71,559),(121,566),(110,573)])]
def vX:List (Nat×List Nat):=[(82,[11]),(196,[1,43,44]),(436,[11,102,31,103,104,105]),(513,[75,67,107]),(576,[139,140,141,142,143])]
def nmT(i:Nat):Str:=match nth wg i with
 |some s=>s
 |none=>⟨#[2000000+i]⟩
def Bh(n:Nat):List Nat->Bool
 |[]=>false
 |a::l=>match Nat.beq a n with
  |true=>true
  |false=>Bh n l
def oa:tR where
 ads:=[]
 fn:=λa=>jy a HW
 cls:=λa=>match jy a sH with
  |some (i,_)=>match i with
   |0=>none
   |i+1=>some (i+1)
  |none=>none
 meth:=λa n=>match jy a sH with
  |some (_,l)=>jy n l
  |none=>none
 fld:=λa n=>match jy a vX with
  |some l=>Bh n l
  |none=>false
 glob:=λn=>jy n Ag
 orc:=λI=>false
 spec:=λI I I I I=>False
 specL:=λI I I I I=>False
 room:=0
def Pg(orc:Nat->Bool)(sp:jA)(sl:jz)(r:Nat):tR:={oa with orc:=orc,room:=r,spec:=sp,specL:=sl}
def Rg(orc:Nat->Bool)(sp:Nat->List V->List O->List O->Prop)(sl:MS->Nat->List O->List O->Prop):sr:=⟨orc,sp,sl⟩
def fe(l:List Nat)(f:Nat):Bool:=Bh f l
def nY(scope:Scope):Bool:=scope.kind== .function&&scope.names.all (λx=>x.2 != .cell&&x.2 != .free)&&scope.names.all (λy=>y.2 != .local||scope.names.lookup y.1==some .local)
/-! shapes:a text,told by z' skeleton;what is not told is taken from the text itself -/
def vA(scope:Scope):Scope:={scope with names:=scope.names.map λ(n,k)=>if k== .free then(n,.cell) else(n,k)}
def yV(nm:Nat->Str)(scope:Scope)(fr:List Nm):Bool:=
 scope.kind== .function&&scope.names.all (λx=>x.2 != .cell)&&scope.names.all (λy=>y.2 != .local||scope.names.lookup y.1==some .local)&&
 scope.names.all (λy=>y.2 != .free||fr.any (λn=>nm n==y.1))&&fr.all (λn=>(vA scope).names.lookup (nm n)==some .cell&&scope.names.any (λy=>y.1==nm n&&y.2== .free))
def JY(y:Stmt):ExceptHandler:=(gi y).hs.headD (.ExceptHandler none none [] default)
def LC(n:Nm)(y:Expr):Bool:=Nat.beq (de y).t 11&&(de y).x==nmT n
section
variable{a b:Bool} {P:Prop}
theorem b2(h:(a&&b)=true)(k:a->b->P):P:=k (cW h).1 (cW h).2
theorem b3{c:Bool}(h:(a&&b&&c)=true)(k:a->b->c->P):P:=b2 h λh=>b2 h k
theorem b4{c d:Bool}(h:(a&&b&&c&&d)=true)(k:a->b->c->d->P):P:=b2 h λh=>b3 h k
theorem b5{c d e:Bool}(h:(a&&b&&c&&d&&e)=true)(k:a->b->c->d->e->P):P:=b2 h λh=>b4 h k
theorem Fk{α β γ:Type}(F:α->β->γ){a a':α}{b b':β}(h:a=a')(k:b=b'):F a b=F a' b':=by rw[h,k]
theorem It{α β γ δ:Type}(F:α->β->γ->δ){a a':α}{b b':β}{c c':γ}(h:a=a')(k:b=b')(l:c=c'):F a b c=F a' b' c':=by rw[h,k,l]
theorem yS{n:Nm}{y:Expr}(h:LC n y):y= .Name (nmT n) (kQ y):=b2 h λt x=>(mI t).trans (az (Expr.Name · (kQ y)) (am.mp x))
theorem Mu{g:Comprehension}(h:g.ifs.isEmpty)(k:decide (g.is_async=0)):g=⟨g.target,g.iter,[],0⟩:=(show g=⟨g.target,g.iter,g.ifs,g.is_async⟩ from by cases g;rfl).trans (Fk (Comprehension.mk g.target g.iter) (iv h) (aS k))
structure Sk(α:Type) where
 b:α->α
 f:Scope->α->Prop
 ok:Scope->α->Bool
 pf:∀{sc:Scope} {y:α},ok sc y=true->y=b y/\f sc y
abbrev bE{α:Type}(k:Sk α)(y:α):α:=k.b y
abbrev fE{α:Type}(sc:Scope)(k:Sk α)(y:α):Prop:=k.f sc y
abbrev Fj{α:Type}(sc:Scope)(k:Sk α)(y:α):Bool:=k.ok sc y
theorem qh{α:Type}{sc:Scope}{k:Sk α}{y:α}(h:Fj sc k y):y=bE k y/\fE sc k y:=k.pf h
def Sk.any{α:Type}:Sk α:=⟨λy=>y,λI I=>True,λI I=>true,λI=>⟨rfl,N4⟩⟩
def Sk.nil{α:Type}:Sk (List α):=⟨λI=>[],λI I=>True,λI y=>y.isEmpty,λh=>⟨iv h,N4⟩⟩
def Sk.cons{α:Type}[Inhabited α](a:Sk α)(l:Sk (List α)):Sk (List α) where
 b y:=a.b (y.headD default)::l.b y.tail
 f sc y:=a.f sc (y.headD default)/\l.f sc y.tail
 ok sc y:= !y.isEmpty&&a.ok sc (y.headD default)&&l.ok sc y.tail
 pf h:=b3 h λt a l=>⟨(rf t).trans (Fk List.cons (Sk.pf _ a).1 (Sk.pf _ l).1),(Sk.pf _ a).2,(Sk.pf _ l).2⟩
def Sk.l{α:Type}[Inhabited α]:List (Sk α)->Sk (List α):=List.foldr .cons .nil
def Sk.no{α:Type}:Sk (Option α):=⟨λI=>none,λI I=>True,λI y=>y.isNone,λh=>⟨Option.isNone_iff_eq_none.mp h,N4⟩⟩
def Sk.opt(a:Sk Expr):Sk (Option Expr):=⟨λy=>some (a.b (oE y)),λsc y=>a.f sc (oE y),λsc y=>y.isSome&&a.ok sc (oE y),λh=>b2 h λt a=>⟨(wW t).trans (az some (Sk.pf _ a).1),(Sk.pf _ a).2⟩⟩
def Sk.m(e:ME):Sk Expr:=⟨λy=>y,λsc y=>dO nmT sc e y=true,λsc y=>dO nmT sc e y,λh=>⟨rfl,h⟩⟩
def Sk.x(e:MS):Sk Stmt:=⟨λy=>y,λsc y=>gI nmT sc e y=true,λsc y=>gI nmT sc e y,λh=>⟨rfl,h⟩⟩
def Sk.mb(e:ME)(a:Sk Expr):Sk Expr:=⟨a.b,λsc y=>dO nmT sc e (a.b y)=true/\a.f sc y,λsc y=>dO nmT sc e y&&a.ok sc y,λh=>b2 h λt a=>⟨(Sk.pf _ a).1,(Sk.pf _ a).1▸t,(Sk.pf _ a).2⟩⟩
def Sk.nS(s:Str):Sk Expr:=⟨λy=>.Name s (kQ y),λI I=>True,λI y=>Nat.beq (de y).t 11&&(de y).x==s,λh=>b2 h λt x=>⟨(mI t).trans (az (Expr.Name · (kQ _)) (am.mp x)),N4⟩⟩
def Sk.gS(s:Str):Sk Expr:=⟨(nS s).b,λsc I=>sc.names.lookup s=some .globalImplicit,λsc y=>(nS s).ok sc y&&sc.names.lookup s==some .globalImplicit,λh=>b2 h λt x=>⟨(Sk.pf _ t).1,am.mp x⟩⟩
def Sk.nm(n:Nm):Sk Expr:=⟨λy=>.Name (nmT n) (kQ y),λI I=>True,λI=>LC n,λh=>⟨yS h,N4⟩⟩
def Sk.nk(k:NameKind)(n:Nm):Sk Expr:=⟨(nm n).b,λsc I=>sc.names.lookup (nmT n)=some k,λsc y=>LC n y&&sc.names.lookup (nmT n)==some k,λh=>b2 h λt x=>⟨yS t,am.mp x⟩⟩
def Sk.tgt(n:Nm):Sk Expr:=nk .local n
def Sk.cel(n:Nm):Sk Expr:=nk .cell n
def Sk.nd(k:NameKind)(n:Nm):Sk Expr:=⟨(nm n).b,λsc I=>sc.names.lookup (nmT n)=some k/\(nmT n==("__debug__":Str))=false,λsc y=>(nk k n).ok sc y&& !(nmT n==("__debug__":Str)),λh=>b2 h λt x=>⟨(Sk.pf _ t).1,(Sk.pf _ t).2,mv x⟩⟩
def Sk.loc(n:Nm):Sk Expr:=nd .local n
def Sk.glb(n:Nm):Sk Expr:=nd .globalImplicit n
def Sk.cst(c:Const):Sk Expr:=⟨λy=>.Constant c (de y).n (kQ y),λI I=>True,λI y=>Nat.beq (de y).t 10&&decide ((de y).k=c),λh=>b2 h λt x=>⟨(mI t).trans (az (Expr.Constant · _ (kQ _)) (aS x)),N4⟩⟩
def Sk.attr(o:Sk Expr)(n:Nm):Sk Expr where
 b y:=.Attribute (o.b (k1 y)) (nmT n) (kQ y)
 f sc y:=o.f sc (k1 y)
 ok sc y:=Nat.beq (de y).t 2&&(de y).x==nmT n&&o.ok sc (k1 y)
 pf h:=b3 h λt x o=>⟨(mI t).trans (Fk (Expr.Attribute · · (kQ _)) (Sk.pf _ o).1 (am.mp x)),(Sk.pf _ o).2⟩
def Sk.call(g:Sk Expr)(as:Sk (List Expr)):Sk Expr where
 b y:=.Call (g.b (k1 y)) (as.b (kL y)) [] (kQ y)
 f sc y:=g.f sc (k1 y)/\as.f sc (kL y)
 ok sc y:=Nat.beq (de y).t 1&&(de y).ks.isEmpty&&g.ok sc (k1 y)&&as.ok sc (kL y)
 pf h:=b4 h λt x g l=>⟨(mI t).trans (It (Expr.Call · · · (kQ _)) (Sk.pf _ g).1 (Sk.pf _ l).1 (iv x)),(Sk.pf _ g).2,(Sk.pf _ l).2⟩
def Sk.atS(o:Sk Expr)(a:Str):Sk Expr where
 b y:=.Attribute (o.b (k1 y)) a (kQ y)
 f sc y:=o.f sc (k1 y)
 ok sc y:=Nat.beq (de y).t 2&&(de y).x==a&&o.ok sc (k1 y)
 pf h:=b3 h λt x o=>⟨(mI t).trans (Fk (Expr.Attribute · · (kQ _)) (Sk.pf _ o).1 (am.mp x)),(Sk.pf _ o).2⟩
def Sk.meth(o:Sk Expr)(a:Str)(as:Sk (List Expr)):Sk Expr where
 b:=(call (atS o a) as).b
 f sc y:=((kQ (k1 y)).endLine==(kQ y).line)=true/\o.f sc (k1 (k1 y))/\as.f sc (kL y)
 ok sc y:=(kQ (k1 y)).endLine==(kQ y).line&&(call (atS o a) as).ok sc y
 pf h:=b2 h λt a=>⟨(Sk.pf _ a).1,t,(Sk.pf _ a).2⟩
def Sk.sub(o i:Sk Expr):Sk Expr where
 b y:=.Subscript (o.b (k1 y)) (i.b (k2 y)) (kQ y)
 f sc y:=o.f sc (k1 y)/\i.f sc (k2 y)
 ok sc y:=Nat.beq (de y).t 3&&o.ok sc (k1 y)&&i.ok sc (k2 y)
 pf h:=b3 h λt o i=>⟨(mI t).trans (Fk (Expr.Subscript · · (kQ _)) (Sk.pf _ o).1 (Sk.pf _ i).1),(Sk.pf _ o).2,(Sk.pf _ i).2⟩
def Sk.slc(a b c:Sk (Option Expr)):Sk Expr where
 b y:=.Slice (a.b (de y).a) (b.b (de y).b) (c.b (de y).c) (kQ y)
 f sc y:=a.f sc (de y).a/\b.f sc (de y).b/\c.f sc (de y).c
 ok sc y:=Nat.beq (de y).t 12&&a.ok sc (de y).a&&b.ok sc (de y).b&&c.ok sc (de y).c
 pf h:=b4 h λt a b c=>⟨(mI t).trans (It (Expr.Slice · · · (kQ _)) (Sk.pf _ a).1 (Sk.pf _ b).1 (Sk.pf _ c).1),(Sk.pf _ a).2,(Sk.pf _ b).2,(Sk.pf _ c).2⟩
def Sk.bin(l:Sk Expr)(op:Operator)(r:Sk Expr):Sk Expr where
 b y:=.BinOp (l.b (k1 y)) op (r.b (k2 y)) (kQ y)
 f sc y:=l.f sc (k1 y)/\r.f sc (k2 y)
 ok sc y:=Nat.beq (de y).t 4&&decide ((de y).o=op)&&l.ok sc (k1 y)&&r.ok sc (k2 y)
 pf h:=b4 h λt x l r=>⟨(mI t).trans (It (Expr.BinOp · · · (kQ _)) (Sk.pf _ l).1 (aS x) (Sk.pf _ r).1),(Sk.pf _ l).2,(Sk.pf _ r).2⟩
def Sk.cmp(l:Sk Expr)(op:CmpOp)(r:Sk Expr):Sk Expr where
 b y:=.Compare (l.b (k1 y)) [op] [r.b (ic (kL y))] (kQ y)
 f sc y:=l.f sc (k1 y)/\r.f sc (ic (kL y))
 ok sc y:=Nat.beq (de y).t 5&&decide ((de y).os=[op])&&Nat.beq (kL y).length 1&&l.ok sc (k1 y)&&r.ok sc (ic (kL y))
 pf h:=b5 h λt x z l r=>⟨(mI t).trans (It (Expr.Compare · · · (kQ _)) (Sk.pf _ l).1 (aS x) ((p8 _ z).trans (az (·::[]) (Sk.pf _ r).1))),(Sk.pf _ l).2,(Sk.pf _ r).2⟩
def Sk.bor(l:Sk (List Expr)):Sk Expr where
 b y:=.BoolOp .Or (l.b (kL y)) (kQ y)
 f sc y:=l.f sc (kL y)
 ok sc y:=Nat.beq (de y).t 7&&decide ((de y).bo= .Or)&&l.ok sc (kL y)
 pf h:=b3 h λt x l=>⟨(mI t).trans (Fk (Expr.BoolOp · · (kQ _)) (aS x) (Sk.pf _ l).1),(Sk.pf _ l).2⟩
def Sk.tup(l:Sk (List Expr)):Sk Expr:=⟨λy=>.Tuple (l.b (kL y)) (de y).n (kQ y),λsc y=>l.f sc (kL y),λsc y=>Nat.beq (de y).t 8&&l.ok sc (kL y),λh=>b2 h λt l=>⟨(mI t).trans (az (Expr.Tuple · _ (kQ _)) (Sk.pf _ l).1),(Sk.pf _ l).2⟩⟩
def Sk.lst(l:Sk (List Expr)):Sk Expr:=⟨λy=>.List (l.b (kL y)) (kQ y),λsc y=>l.f sc (kL y),λsc y=>Nat.beq (de y).t 9&&l.ok sc (kL y),λh=>b2 h λt l=>⟨(mI t).trans (az (Expr.List · (kQ _)) (Sk.pf _ l).1),(Sk.pf _ l).2⟩⟩
def Mt(y:Expr):Bool:=Nat.beq (de y).t 6&&Nat.beq (de y).gs.length 1&&(kG y).ifs.isEmpty&&decide ((kG y).is_async=0)
theorem Ff{y e t i:Expr}(h:Mt y)(he:k1 y=e)(ht:(kG y).target=t)(hi:(kG y).iter=i):y= .ListComp e [⟨t,i,[],0⟩] (de y).s (kQ y):=by
 subst he ht hi;exact b4 h λa b c d=>(mI a).trans (az (Expr.ListComp (k1 y) · (de y).s (kQ y)) ((p8 _ b:(de y).gs=[kG y]).trans (az (·::[]) (Mu c d))))
def Sk.compT(e it:ME)(ns:List Nm):Sk Expr where
 b y:=.ListComp (k1 y) [⟨.Tuple (kL (kG y).target) (de (kG y).target).n (kQ (kG y).target),(kG y).iter,[],0⟩] (de y).s (kQ y)
 f sc y:=dO nmT sc it (kG y).iter=true/\nY (de y).s=true/\uz nmT (de y).s ns (kL (kG y).target)=true/\dO nmT (de y).s e (k1 y)=true
 ok sc y:=Mt y&&Nat.beq (de (kG y).target).t 8&&(dO nmT sc it (kG y).iter&&nY (de y).s&&uz nmT (de y).s ns (kL (kG y).target)&&dO nmT (de y).s e (k1 y))
 pf h:=b3 h λg t r=>b4 r λa b c d=>⟨Ff g rfl (mI t) rfl,a,b,c,d⟩
def Sk.comp(e it:Sk Expr)(t:Nm)(fr:List Nm):Sk Expr where
 b y:=.ListComp (e.b (k1 y)) [⟨.Name (nmT t) (kQ (kG y).target),it.b (kG y).iter,[],0⟩] (de y).s (kQ y)
 f sc y:=yV nmT (de y).s fr=true/\(de y).s.names.lookup (nmT t)=some .local/\it.f sc (kG y).iter/\e.f (vA (de y).s) (k1 y)
 ok sc y:=Mt y&&LC t (kG y).target&&yV nmT (de y).s fr&&(de y).s.names.lookup (nmT t)==some .local&&(it.ok sc (kG y).iter&&e.ok (vA (de y).s) (k1 y))
 pf h:=b5 h λg n c l r=>b2 r λi e=>⟨Ff g (Sk.pf _ e).1 (yS n) (Sk.pf _ i).1,c,am.mp l,(Sk.pf _ i).2,(Sk.pf _ e).2⟩
def Sk.asg(t e:Sk Expr):Sk Stmt where
 b y:=.Assign [t.b (sG y)] (e.b (sV y)) (sQ y)
 f sc y:=t.f sc (sG y)/\e.f sc (sV y)
 ok sc y:=Nat.beq (gi y).t 1&&Nat.beq (gi y).l.length 1&&t.ok sc (sG y)&&e.ok sc (sV y)
 pf h:=b4 h λt n a e=>⟨(Internal.atS t).trans (Fk (Stmt.Assign · · (sQ _)) ((p8 _ n).trans (az (·::[]) (Sk.pf _ a).1)) (Sk.pf _ e).1),(Sk.pf _ a).2,(Sk.pf _ e).2⟩
def Sk.asgP(ts vs:Sk (List Expr)):Sk Stmt where
 b:=(asg (tup ts) (tup vs)).b
 f sc y:=(hO sc (ts.b (kL (sG y)))).length≠2/\ts.f sc (kL (sG y))/\vs.f sc (kL (sV y))
 ok sc y:= !((hO sc (ts.b (kL (sG y)))).length==2)&&(asg (tup ts) (tup vs)).ok sc y
 pf h:=b2 h λt a=>⟨(Sk.pf _ a).1,bne_iff_ne.mp t,(Sk.pf _ a).2⟩
def Sk.asgC(n:Nm)(e:Sk Expr):Sk Stmt where
 b:=(asg (nm n) e).b
 f sc y:=sc.names.lookup (nmT n)=some .local/\((kQ (sG y)).line==(kQ (sV y)).line)=true/\((de (sV y)).s.names.any λ(n',k)=>n'==nmT n&&(k== .local||k== .cell))=false/\e.f sc (sV y)
 ok sc y:=(asg (nm n) e).ok sc y&&sc.names.lookup (nmT n)==some .local&&((kQ (sG y)).line==(kQ (sV y)).line)&& !((de (sV y)).s.names.any λ(n',k)=>n'==nmT n&&(k== .local||k== .cell))
 pf h:=b4 h λa l q z=>⟨(Sk.pf _ a).1,am.mp l,q,mv z,(Sk.pf _ a).2.2⟩
def Sk.for_(t it:Sk Expr)(b:Sk (List Stmt)):Sk Stmt where
 b y:=.For (t.b (sT y)) (it.b (sV y)) (b.b (sW y)) [] (sQ y)
 f sc y:=t.f sc (sT y)/\it.f sc (sV y)/\b.f sc (sW y)
 ok sc y:=Nat.beq (gi y).t 2&&(sE y).isEmpty&&t.ok sc (sT y)&&it.ok sc (sV y)&&b.ok sc (sW y)
 pf h:=b5 h λk x t i b=>⟨(Internal.atS k).trans ((az (Stmt.For _ _ _ · _) (iv x)).trans (It (Stmt.For · · · [] (sQ _)) (Sk.pf _ t).1 (Sk.pf _ i).1 (Sk.pf _ b).1)),(Sk.pf _ t).2,(Sk.pf _ i).2,(Sk.pf _ b).2⟩
def Sk.if_(t:Sk Expr)(b e:Sk (List Stmt)):Sk Stmt where
 b y:=.If (t.b (sT y)) (b.b (sW y)) (e.b (sE y)) (sQ y)
 f sc y:=t.f sc (sT y)/\b.f sc (sW y)/\e.f sc (sE y)
 ok sc y:=Nat.beq (gi y).t 3&&t.ok sc (sT y)&&b.ok sc (sW y)&&e.ok sc (sE y)
 pf h:=b4 h λk t b e=>⟨(Internal.atS k).trans (It (Stmt.If · · · (sQ _)) (Sk.pf _ t).1 (Sk.pf _ b).1 (Sk.pf _ e).1),(Sk.pf _ t).2,(Sk.pf _ b).2,(Sk.pf _ e).2⟩
def Sk.ret(e:Sk Expr):Sk Stmt:=⟨λy=>.Return (some (e.b (sO y))) (sQ y),λsc y=>e.f sc (sO y),λsc y=>Nat.beq (gi y).t 4&&(opt e).ok sc (gi y).o,λh=>b2 h λk e=>⟨(Internal.atS k).trans (az (Stmt.Return · (sQ _)) (Sk.pf _ e).1),(Sk.pf _ e).2⟩⟩
def Sk.exprS(e:Sk Expr):Sk Stmt:=⟨λy=>.Expr (e.b (sT y)) (sQ y),λsc y=>e.f sc (sT y),λsc y=>Nat.beq (gi y).t 5&&e.ok sc (sT y),λh=>b2 h λk e=>⟨(Internal.atS k).trans (az (Stmt.Expr · (sQ _)) (Sk.pf _ e).1),(Sk.pf _ e).2⟩⟩
def Sk.raise(e:Sk Expr):Sk Stmt where
 b y:=.Raise (some (e.b (sO y))) none (sQ y)
 f sc y:=e.f sc (sO y)
 ok sc y:=Nat.beq (gi y).t 11&&(gi y).o2.isNone&&(opt e).ok sc (gi y).o
 pf h:=b3 h λk x e=>⟨(Internal.atS k).trans (Fk (Stmt.Raise · · (sQ _)) (Sk.pf _ e).1 (Option.isNone_iff_eq_none.mp x)),(Sk.pf _ e).2⟩
def Sk.hnd(t w:Nm)(r:Sk (List Stmt)):Sk ExceptHandler where
 b y:=.ExceptHandler (some (.Name (nmT t) (kQ (oE (nR y).t)))) (some (nmT w)) (r.b (nR y).b) (nR y).p
 f sc y:=(sc.names.lookup (nmT t)=some .globalImplicit/\(nmT t==("__debug__":Str))=false)/\r.f sc (nR y).b
 ok sc y:=decide ((nR y).w=some (nmT w))&&(opt (glb t)).ok sc (nR y).t&&r.ok sc (nR y).b
 pf h:=b3 h λw t r=>⟨(LZ _).trans (It (ExceptHandler.ExceptHandler · · · (nR _).p) (Sk.pf _ t).1 (aS w) (Sk.pf _ r).1),(Sk.pf _ t).2,(Sk.pf _ r).2⟩
def Sk.try_(b:Sk (List Stmt))(t w:Nm)(r:Sk (List Stmt)):Sk Stmt where
 b y:=.Try (b.b (sW y)) [(hnd t w r).b (JY y)] [] [] (sQ y)
 f sc y:=b.f sc (sW y)/\(hnd t w r).f sc (JY y)
 ok sc y:=Nat.beq (gi y).t 12&&Nat.beq (gi y).hs.length 1&&(gi y).e.isEmpty&&(gi y).f.isEmpty&&(b.ok sc (sW y)&&(hnd t w r).ok sc (JY y))
 pf h:=b5 h λk n e f r=>b2 r λb r=>⟨(Internal.atS k).trans ((Fk (Stmt.Try _ _ · · (sQ _)) (iv e) (iv f)).trans (Fk (Stmt.Try · · [] [] (sQ _)) (Sk.pf _ b).1 ((p8 _ n).trans (az (·::[]) (Sk.pf _ r).1)))),(Sk.pf _ b).2,(Sk.pf _ r).2⟩
end
section
set_option backward.match.sparseCases false
/-! the loops -/
def lU(l:List MS)(n:Nat):MS:=match nth l n with
 |some x=>x
 |none=>.oth
def d0:MS->List MS
 | .while _ b=>b
 | .for _ _ b=>b
 |_=>[]
def js:MS:=lU uy 1
def gg:MS:=lU ut 1
def jX:MS:=lU xd 1
def i4:MS:=lU jC 1
def oC:MS:=lU me 1
def iP:MS:=lU qQ 1
def lj:MS:=lU oM 1
def fx:MS:=lU mu 0
def fN:MS:=lU nG 0
def eW:MS:=lU Aj 1
def eF:MS:=lU (d0 eW) 3
def pg:MS:=match nth kn 1 with
 |some (.ite _ [x] _)=>x
 |_=>.oth
/-! what the law builds -/
inductive gw where
 |ca | cb | any | len1 | len0 | fail | fence | abort
inductive lY where
 |bare | now | later
inductive dZ where
 |cur
 |mk (m:lY) (b:gw)
def dM:Str:=S [99,104,97,114,115]
def jp:Str:=S [108,101,110]
def kP:Str:=S [97,110,121]
def l8:Str:=S [102,97,105,108]
def iq:Str:=S [102,101,110,99,101]
def eV:Str:=S [97,98,111,114,116]
def nB:Str:=S [110,111,119]
def hZ:Str:=S [108,97,116,101,114]
def fH:Str:=S [99,117,114,115,111,114]
def fQ:Str:=S [99,97,116]
def gz:Str:=S [115,117,99,99,101,101,100]
def sK:Str:=S [75]
def jo:Str:=S [110,111,110,101]
def jT:Str:=S [114,111,117,110,100]
def lX:Str:=S [109,101,116]
def sA:Str:=S [97]
def sB:Str:=S [98]
def lW:Str:=S [97,98]
def qr:gw->Str
 | .ca=>dM
 | .cb=>dM
 | .any=>kP
 | .len1=>jp
 | .len0=>jp
 | .fail=>l8
 | .fence=>iq
 | .abort=>eV
def signs:gw->Str
 | .ca=>sA
 | .cb=>sB
 |_=>lW
def Jr:gw->Bool
 | .ca=>true
 | .cb=>true
 | .any=>true
 |_=>false
def Lc:gw->Bool
 | .len1=>true
 | .len0=>true
 |_=>false
def Ki:gw->Nat
 | .len1=>1
 |_=>0
def EA(b:gw):List V:=match Jr b with
 |true=>[.str true (signs b)]
 |false=>match Lc b with
  |true=>[.int true (Ki b:Int)]
  |false=>[]
def lP(b:gw):V:=.tup (.str true (qr b)::EA b)
def db(r:Nat):dZ->V
 | .cur=>.tup [.str true fH,.obj r]
 | .mk .bare b=>lP b
 | .mk .now b=>.tup [.str true nB,lP b,.obj r]
 | .mk .later b=>.tup [.str true hZ,lP b,.obj r]
inductive LE where
 |at (n:Nat)
 |tx (s:Str)
def d4:LE->V
 | .at n=>.tup [.str false sK,.int true (n:Int)]
 | .tx s=>.tup [.str false sK,.str true s]
def nJ(s:Str):V:=.tup [.str false sK,.str true s]
def cut(s:Str)(a b:Nat):Str:=Txt.slice s (some (a:Int)) (some (b:Int))
def gH(s:Str)(a:Nat):Str:=⟨#[s.cps.getD a 0]⟩
def GF(b:gw)(s:Str)(a:Nat):Bool:=Txt.contains (signs b) (gH s a)
def eX(s:Str)(a:Nat):gw->Option Nat
 | .len1=>if s.length<a+1 then none else some (a+1)
 | .len0=>if s.length<a+0 then none else some (a+0)
 | .fail=>none
 | .fence=>some a
 | .abort=>none
 |b=>if s.length<a+1 then none else match GF b s a with
  |true=>some (a+1)
  |false=>none
inductive fP where
 |over
 |no
 |ok (a:Nat) (ns:List Str) (f:Bool)
def fI:gw->Bool
 | .fence=>true
 |_=>false
def eh:gw->Bool
 | .abort=>true
 |_=>false
def d3(s:Str):List dZ->Nat->Bool->List Str->List LE->fP×List LE
 |[],a,f,ns,lg=>(.ok a ns f,lg)
 | .cur::ps,a,f,ns,lg=>d3 s ps a f ns (lg++[.at a])
 | .mk m b::ps,a,f,ns,lg=>match eh b with
  |true=>(.over,lg)
  |false=>match eX s a b with
   |none=>(if f then .over else .no,lg)
   |some e=>match m with
    | .bare=>d3 s ps e (fI b||f) ns lg
    | .now=>d3 s ps e (fI b||f) ns (lg++[.tx (cut s a e)])
    | .later=>d3 s ps e (fI b||f) (ns++[cut s a e]) lg
inductive ii where
 |none (w:Nat)
 |round (rs:List LE)
 |met (b e:Nat) (ns:List Str)
def mc(s:Str)(front behind:List dZ):Nat->Nat->List LE->ii×List LE
 |0,_,lg=>(.none 0,lg)
 |n+1,b,lg=>match d3 s front b false [] lg with
  |(.over,lg)=>(.none 1,lg)
  |(.no,lg)=>mc s front behind n (b+1) lg
  |(.ok a ns _,lg)=>match d3 s behind a false [] [] with
   |(.no,rs)=>(.round rs,lg)
   |(.over,rs)=>(.none 2,lg++rs)
   |(.ok e ms _,rs)=>(.met b e (ns++ms),lg++rs)
def dK(s:Str)(an:Bool):Nat:=if an then 1 else s.length+1
def wq(s:Str)(front behind:List dZ)(an:Bool):ii×List LE:=mc s front behind (dK s an) 0 []
/-! renaming,by lemmas -/
theorem RV.n{f:Nat->Option Nat}:RV f .none .none:=rfl
theorem RV.b{f:Nat->Option Nat}{b:Bool}:RV f (.bool b) (.bool b):=rfl
theorem RV.i{f:Nat->Option Nat}{y z:Bool}{i:Int}:RV f (.int y i) (.int z i):=⟨z,rfl⟩
theorem RV.s{f:Nat->Option Nat}{y z:Bool}{s:Str}:RV f (.str y s) (.str z s):=⟨z,rfl⟩
theorem RV.t{f:Nat->Option Nat}{vs ws:List V}(h:RVs f vs ws):RV f (.tup vs) (.tup ws):=⟨ws,rfl,h⟩
theorem RV.o{f:Nat->Option Nat}{i j:Nat}(h:f i=some j):RV f (.obj i) (.obj j):=⟨j,h,rfl⟩
theorem RV.v{f:Nat->Option Nat}{x:Value}:RV f (.val x) (.val x):=rfl
theorem RVs.z{f:Nat->Option Nat}:RVs f [] []:=rfl
theorem RVs.k{f:Nat->Option Nat}{v w:V}{vs ws:List V}(h:RV f v w)(k:RVs f vs ws):RVs f (v::vs) (w::ws):=⟨w,ws,rfl,h,k⟩
theorem RFs.z{f:Nat->Option Nat}:RFs f [] []:=rfl
theorem RFs.k{f:Nat->Option Nat}{n:Nm}{v w:V}{vs ws:List (Nm×V)}(h:RV f v w)(k:RFs f vs ws):RFs f ((n,v)::vs) ((n,w)::ws):=⟨w,ws,rfl,h,k⟩
section
variable{xs top:List V}
theorem RO.l{f:Nat->Option Nat}{y z:Bool}{ys:List V}(h:RVs f xs ys):RO f (.list y xs) (.list z ys):=.inl ⟨z,ys,rfl,h⟩
theorem RO.toStk{f:Nat->Option Nat}{y:Bool}(h:RVs f xs top.reverse):RO f (.list y xs) (.stk top []):=.inr (.inl ⟨top,rfl,h⟩)
theorem RO.lstAny{f:Nat->Option Nat}{y:Bool}:RO f (.list y xs) .any:=.inr (.inr rfl)
theorem RO.y{f:Nat->Option Nat}{top':List V}{u':List Value}(h:RVs f top top'):RO f (.stk top u') (.stk top' u'):=.inl ⟨top',rfl,h⟩
theorem RO.stkAny{f:Nat->Option Nat}{u':List Value}:RO f (.stk top u') .any:=.inr (.inl rfl)
theorem RO.unStk{f:Nat->Option Nat}{y:Bool}{ys:List V}(h:RVs f top.reverse ys):RO f (.stk top []) (.list y ys):=.inr (.inr ⟨rfl,y,ys,rfl,h⟩)
theorem RO.x{f:Nat->Option Nat}{C:Addr}{fs gs:List (Nm×V)}(h:RFs f fs gs):RO f (.inst C fs) (.inst C gs):=⟨gs,rfl,h⟩
theorem RO.d{f:Nat->Option Nat}{ks:List Str}:RO f (.dict ks) (.dict ks):=rfl
theorem RO.a{f:Nat->Option Nat}:RO f .any .any:=rfl
theorem ROs.z{f:Nat->Option Nat}:ROs f [] []:=rfl
theorem ROs.k{f:Nat->Option Nat}{o o':O}{os H':List O}(h:RO f o o')(k:ROs f os H'):ROs f (o::os) (o'::H'):=⟨o',H',rfl,h,k⟩
theorem RVs.app'{f:Nat->Option Nat}:∀{a b a' b':List V},RVs f a a'->RVs f b b'->RVs f (a++b) (a'++b')
 |[],_,_,_,e,q=>by cases e;exact q
 |_::_,_,_,_,zh4,q=>by
  obtain⟨w,ws,e,p,r⟩:=zh4;subst e;exact .k p (r.app' q)
theorem RVs.map'{f:Nat->Option Nat}{α:Type}{g h:α->V}:∀(l:List α),(∀x∈l,RV f (g x) (h x))->RVs f (l.map g) (l.map h)
 |[],_=>rfl
 |a::l,k=>.k (k a (.head _)) (RVs.map' l λx m=>k x (.tail _ m))
theorem RV.bare{f:Nat->Option Nat}(b:gw):RV f (lP b) (lP b):=by
 cases b<;>exact .t (by first | exact .k .s (.k .s .z) | exact .k .s (.k .i .z) | exact .k .s .z)
theorem RV.part{f:Nat->Option Nat}{r r':Nat}(h:f r=some r')(p:dZ):RV f (db r p) (db r' p):=by
 cases p with
 |cur=>exact .t (.k .s (.k (.o h) .z))
 |mk m b=>
  cases m with
  |bare=>exact RV.bare b
  |now=>exact .t (.k .s (.k (.bare b) (.k (.o h) .z)))
  |later=>exact .t (.k .s (.k (.bare b) (.k (.o h) .z)))
def FrR(f:Nat->Option Nat)(b:List (Nm×V)):List (Nm×V)->Prop
 |[]=>True
 |(n,v)::r=>(∃w,gP n b=some w/\RV f w v)/\FrR f b r
theorem FrR.at{f:Nat->Option Nat}{b:List (Nm×V)}:∀{b':List (Nm×V)},FrR f b b'->∀n v,gP n b'=some v->∃w,gP n b=some w/\RV f w v
 |[],_,_,_,e=>by cases e
 |(k,x)::r,h,n,v,e=>by
  cases q:Nat.beq k n with
  |true=>
   rw[kK q] at e;cases e;rw[<-aP q];exact h.1
  |false=>
   rw[iY q] at e;exact FrR.at h.2 n v e
theorem FrR.z{f:Nat->Option Nat}{b:List (Nm×V)}:FrR f b []:=trivial
theorem FrR.k{f:Nat->Option Nat}{b r:List (Nm×V)}{n:Nm}{v w:V}(e:gP n b=some w)(h:RV f w v)(k:FrR f b r):FrR f b ((n,v)::r):=⟨⟨w,e,h⟩,k⟩
theorem RO.f{f:Nat->Option Nat}{b b':List (Nm×V)}(h:FrR f b b'):RO f (.frame b) (.frame b'):=⟨b',rfl,h.at⟩
theorem RVs.snoc{f:Nat->Option Nat}{α:Type}{g:α->V}{l:List α}{x:α}{v:V}(hl:RVs f (l.map g) (l.map g))(h:RV f v (g x)):RVs f (l.map g++[v]) ((l++[x]).map g):=by
 rw[bn];exact hl.app' (.k h .z)
theorem RV.le{f:Nat->Option Nat}(x:LE):RV f (d4 x) (d4 x):=by cases x<;>exact .t (by first | exact .k .s (.k .i .z) | exact .k .s (.k .s .z))
theorem RV.nm{f:Nat->Option Nat}(x:Str):RV f (nJ x) (nJ x):=.t (.k .s (.k .s .z))
theorem RVs.parts{f:Nat->Option Nat}{r r':Nat}(h:f r=some r')(l:List dZ):RVs f (l.map (db r)) (l.map (db r')):=.map' l λp I=>.part h p
theorem RVs.les{f:Nat->Option Nat}(l:List LE):RVs f (l.map d4) (l.map d4):=.map' l λp I=>.le p
theorem RVs.nms{f:Nat->Option Nat}(l:List Str):RVs f (l.map nJ) (l.map nJ):=.map' l λp I=>.nm p
theorem RVs.ints{f:Nat->Option Nat}(l:List Int):RVs f (l.map (V.int true)) (l.map (V.int true)):=.map' l λI I=>.i
end
end
section
set_option tactic.hygienic true
structure Bs where
 prog:Program
 w:World
 K:Frag
 h₀:Heap
 mg:Str->Option Value
 mb:Str->Option Value
def bs0:Bs:=⟨default,w0,default,{},λI=>none,λI=>none⟩
def C(b:Bs):Cx:=⟨b.prog,b.w,b.K,b.h₀,b.mg,b.mb,nmT,oa⟩
structure dI(b:Bs):Prop where
 X:(C b).Ok
 F:pE (C b)
abbrev out(l:List Nat)(q:V×St):V×List (Option O)×List Prop:=(q.1,l.map (nth q.2.os ·),q.2.cs)
abbrev C3(l:List Nat)(q:Fl×St):Fl×List (Option O)×List Prop:=(q.1,l.map (nth q.2.os ·),q.2.cs)
abbrev LD(sp:jA)(sl:jz)(r:Nat)(l:List Nat)(n:Nat):Nat->List V->St->Option (V×St):=(ev (Pg (fe l) sp sl r) n).c
abbrev MM(sp:jA)(sl:jz)(r:Nat)(l:List Nat)(n:Nat):List MS->Nat->St->Option (Fl×St):=(ev (Pg (fe l) sp sl r) n).ss
abbrev Nr{α:Type}(v:α)(os:List O)(cs:List Prop):Option (α×List (Option O)×List Prop):=some (v,List.map some os,cs)
abbrev TC(sp:jA)(sl:jz)(r:Nat)(x l:List Nat)(n f:Nat)(vs:List V)(st:St)(v:V)(os:List O)(cs:List Prop):Prop:=Option.map (out x) ((ev (Pg (fe l) sp sl r) n).c f vs st)=some (v,List.map some os,cs)
abbrev TS(sp:jA)(sl:jz)(r:Nat)(x l:List Nat)(n:Nat)(b:List MS)(fi:Nat)(st:St)(v:Fl)(os:List O)(cs:List Prop):Prop:=Option.map (C3 x) ((ev (Pg (fe l) sp sl r) n).ss b fi st)=some (v,List.map some os,cs)
abbrev tr(l:List Nat)(q:St):List (Option O)×List Prop:=(l.map (nth q.os ·),q.cs)
theorem rY:∀{l:List Nat} {n:Nat},Bh n l=true->n∈l
 |[],_,h=>by cases h
 |a::l,n,h=>by
  have h:(match Nat.beq a n with | true=>true | false=>Bh n l)=true:=h;cases e:Nat.beq a n with
  |true=>rw[aP e];exact .head _
  |false=>rw[e] at h;exact .tail _ (rY h)
section
variable{b:Bs} {r n:Nat} {vs:List V} {os H' I':List O} {v:V} {l₀:List Nat} {ch:List Ch} {cs:List Prop}
theorem dD(G:dI b){l:List Nat}(h:l.all (λf=>(oa.fn f).isSome)=true):∀f,fe l f=true->keepIn (C b).K (.ref f)=true:=λf e=>by
 have m:=aT.mp h f (rY e);cases q:oa.fn f with
 |none=>rw[q] at m;cases m
 |some r=>
  obtain⟨ps,body⟩:=r;obtain⟨fd,bd,K⟩:=G.F.fn f ps body q;obtain⟨oc,od,osl,hf⟩:=K.at_;unfold keepIn;dsimp only;rw[hf]
abbrev Ct(b:Bs)(r:Nat):=fJ ((C b).at r)
abbrev Lt(b:Bs)(r:Nat):=zT ((C b).at r)
theorem fJ.more{c:Cx}{r' f:Nat}(h:fJ (c.at r) f vs os v H')(le:r<=r'):fJ (c.at r') f vs os v H':=
 λA xs s ρ Q E rm R ad vr q=>h A xs s ρ Q E (rm.less le) R ad vr q
def kj:List Nat->Nat->Nat->Bool
 |_,_,0=>true
 |[],_,_+1=>false
 |a::l,i,n+1=>Nat.beq a i&&kj l (i+1) n
theorem wa:∀{l:List Nat} {i n j:Nat},kj l i n=true->j<n->nth l j=some (i+j)
 |_,_,0,_,_,h=>absurd h (cB _)
 |[],_,_+1,_,h,_=>by cases h
 |a::l,i,n+1,0,h,_=>by
  obtain⟨h1,_⟩:=cW h;rw[aP h1];rfl
 |a::l,i,n+1,j+1,h,hj=>by
  obtain⟨_,h2⟩:=cW h;have:=wa (l:=l) (j:=j) h2 (Nat.lt_of_succ_lt_succ hj);show nth l j=_;rw[this,show i+1+j=i+(j+1) from by omega]
theorem fj{l:List Nat}(h:kj l 0 n):∀i<n,nth l i=some i:=λi hi=>by rw[wa h hi,bS]
theorem dF(G:dI b){f:Nat}{v1:V}(l:List Nat)
  (h:((ev (Pg (fe l₀) (Ct b r) (Lt b r) r) n).c f vs ⟨os,ch,[]⟩).map (out l)=some (v1,I'.map some,cs)) (hc:jx cs) (S:ROs (fb l) I' H') (rv:RV (fb l) v1 v)
  (h0:l₀.all (λf=>(oa.fn f).isSome)=true:=by decide) (nd:l.Nodup:=by decide) (keep:kj l 0 os.length:=by rfl):Ct b (n+r) f vs os v H':=
 Hz G.X G.F (dD G h0) l h hc nd (fj keep) S rv
theorem cr(G:dI b){f:Nat}{v1:V}(l:List Nat)
  (h:((ev (Pg (fe l₀) (Ct b 0) (Lt b 0) 0) n).c f vs ⟨os,ch,[]⟩).map (out l)=some (v1,I'.map some,cs)) (hc:jx cs) (S:ROs (fb l) I' H') (rv:RV (fb l) v1 v)
  (h0:l₀.all (λf=>(oa.fn f).isSome)=true:=by decide) (nd:l.Nodup:=by decide) (keep:kj l 0 os.length:=by rfl):Ct b n f vs os v H':=
 dF G (r:=0) l h hc S rv h0 nd keep
theorem eQ{k:Nat}{orc':Nat->Bool}{EI:eZ}{rz:Prop}{bd:List MS}{fi:Nat}{σ:List O}{NP:Fl->List O->Prop}{XP J:List O->Prop}{fl:Fl}(l:List Nat)(h:Option.map (C3 l) ((ev (Pg (fe l₀) (Ct b r) (Lt b r) r) n).ss bd fi ⟨σ,ch,[]⟩)=some (fl,List.map some I',cs))(hc:jx cs)(S:ROs (fb l) I' H')(hJ:J H')
  (hfl:fl= .next\/fl= .cont:=by walk_at "f") (nd:l.Nodup:=by decide) (keep:kj l 0 k:=by rfl):iC (C b) r (fe l₀) orc' EI rz n k bd fi σ NP XP J:=by
 obtain⟨⟨f,st⟩,e1,e2⟩:=aq.mp h;obtain⟨rfl,e3,rfl⟩:f=fl/\l.map (nth st.os ·)=I'.map some/\st.cs=cs:=by simpa only[bc] using e2
 have T:=(dg.sel (c:=C b) (k:=k) e3 nd (fj keep) S).mono (ao _) (J':=J) λσ' e=>by subst e;exact hJ
 refine .inl ⟨ch,f,st,e1,gj hc,?_⟩;rcases hfl with rfl | rfl<;>exact⟨_,T⟩
theorem fT{k:Nat}{orc':Nat->Bool}{EI:eZ}{rz:Prop}{bd:List MS}{fi:Nat}{σ:List O}{NP:Fl->List O->Prop}{XP J:List O->Prop}{w:V}(l:List Nat)(h:Option.map (C3 l) ((ev (Pg (fe l₀) (Ct b r) (Lt b r) r) n).ss bd fi ⟨σ,ch,[]⟩)=some (.ret v,List.map some I',cs))(hc:jx cs)(S:ROs (fb l) I' H')(rv:RV (fb l) v w)(hN:NP (.ret w) H')
  (nd:l.Nodup:=by decide) (keep:kj l 0 k:=by rfl):iC (C b) r (fe l₀) orc' EI rz n k bd fi σ NP XP J:=by
 obtain⟨⟨f,st⟩,e1,e2⟩:=aq.mp h;obtain⟨rfl,e3,rfl⟩:f= .ret v/\l.map (nth st.os ·)=I'.map some/\st.cs=cs:=by simpa only[bc] using e2
 exact .inl ⟨ch,.ret v,st,e1,gj hc,_,w,rv,(dg.sel (c:=C b) (k:=k) e3 nd (fj keep) S).mono (ao _) λσ' e=>by subst e;exact hN⟩
/-! taking a number -/
def take(lim:Int):List Int×Int->Int×List Int×Int
 |(x::xs,z)=>(x.fmod lim,xs,z)
 |([],z)=>((((z*4093+12289).fmod 1000003).fdiv 8).fmod lim,[],(z*4093+12289).fmod 1000003)
def gM(i:Nat)(z:Int):O:=.list true [.obj i,.int true z]
def fg(xs:List Int):O:=.list true (xs.map (V.int true))
structure ie(p:List Int×Int):Prop where
 z0:0<=p.2
 z1:p.2<1000003
 len:p.1.length<2^20
end
section
variable(sp:jA) (sl:jz) (r:Nat)
theorem F1(lim z:Int):(LD sp sl r [] 20 643 [.obj 0,.int false lim] ⟨[gM 1 z,.list true []],[.b false],[]⟩).map (out [0,1])=
  some (.int true ((((z*4093+12289).fmod 1000003).fdiv 8).fmod lim),[gM 1 ((z*4093+12289).fmod 1000003),.list true []].map some,
   [lim≠0,(8:Int)≠0/\Builtin.divisionGoesByPylong ((z*4093+12289).fmod 1000003) 8=false,(1000003:Int)≠0,IntMulOk z 4093,decide ((0:Int)<(([]:List V).length:Nat))=false,([]:List V).length<2^20]):=by
 walk_at"k"
theorem Fq(lim z x:Int)(xs:List V):(LD sp sl r [] 20 643 [.obj 0,.int false lim] ⟨[gM 1 z,.list true (.int true x::xs)],[.b true],[]⟩).map (out [0,1])=
  some (.int true (x.fmod lim),[gM 1 z,.list true xs].map some,
   [lim≠0,(V.int true x::xs).length<2^20,decide ((0:Int)<((V.int true x::xs).length:Nat))=true,(V.int true x::xs).length<2^20]):=by
 walk_at"k"
end
section
variable{lim:Int}
theorem jd{p:List Int×Int}(h:ie p):ie (take lim p).2:=by
 obtain⟨xs,z⟩:=p;cases xs with
 |nil=>exact⟨Int.fmod_nonneg_of_pos _ (),Int.fmod_lt_of_pos _ (),by show 0<2^20;decide⟩
 |cons x xs=>
  have:=h.len;exact⟨h.z0,h.z1,by show xs.length<2^20;simp only[bJ] at this;omega⟩
theorem jG(hl:0<lim)(p:List Int×Int):0<=(take lim p).1/\(take lim p).1<lim:=by
 obtain⟨xs,z⟩:=p;cases xs with
 |nil=>exact⟨Int.fmod_nonneg_of_pos _ hl,Int.fmod_lt_of_pos _ hl⟩
 |cons x xs=>exact⟨Int.fmod_nonneg_of_pos _ hl,Int.fmod_lt_of_pos _ hl⟩
theorem JN{b:Bs}(G:dI b){p:List Int×Int}(h:ie p)(hl:lim≠0):
  Ct b 20 643 [.obj 0,.int false lim] [gM 1 p.2,fg p.1] (.int true (take lim p).1) [gM 1 (take lim p).2.2,fg (take lim p).2.1]:=by
 obtain⟨xs,z⟩:=p;cases xs with
 |nil=>
  refine dF G (r:=0) (n:=20) [0,1] (F1 _ _ _ lim z) ⟨hl,⟨by decide,by unfold Builtin.divisionGoesByPylong;rfl⟩,by decide,IntMulOk.of_right (),rfl,by decide,N4⟩ ?_ RV.i
  walk_at "ro"
 |cons x xs=>
  have hb:(V.int true x::xs.map (V.int true)).length<2^20:=by have:=h.len;simpa using this
  refine dF G (r:=0) (n:=20) [0,1] (Fq _ _ _ lim z x (xs.map (V.int true))) ⟨hl,hb,?_,hb,N4⟩ ?_ RV.i
  .exact av (by simp only[bJ];omega)
  .walk_at "ro"
end
end
def bare0:gw->V
 | .ca=>.tup [.str false dM,.str false sA]
 | .cb=>.tup [.str false dM,.str false sB]
 | .any=>.tup [.str false kP,.str false lW]
 | .len1=>.tup [.str false jp,.int false 1]
 | .len0=>.tup [.str false jp,.int false 0]
 | .fail=>.tup [.str false l8]
 | .fence=>.tup [.str false iq]
 | .abort=>.tup [.str false eV]
def mh:List V:=[bare0 .ca,bare0 .cb,bare0 .len1,bare0 .any,bare0 .fence,bare0 .abort,bare0 .fail,bare0 .len0]
section
variable(sp:jA) (sl:jz) (r:Nat) (f w:Int) (x:V) (R b0 i0 b1 i1 b2 i2:O)
theorem GO:TC sp sl r [0,1,2] [643] 30 650 [.obj 1,.obj 0] ⟨[R,b0,i0],[.k (.int true f) [R,b1,i1,.frame [(ey,.obj 1),(eH,.obj 0)]],.k (.int true w) [R,b2,i2,.frame [(ey,.obj 1),(eH,.obj 0),(lG,.int true f),(lc,.obj 4)],.list true mh],.b true,.v x],[]⟩ (.tup [.str false (S [110,111,119]),x,.obj 0]) [R,b2,i2] [0<=f/\f<2^62/\nth mh (Int.toNat f)=some x,decide (w=1)=true,sp 643 [.obj 1,.int false 4] [R,b1,i1,O.frame [(160,V.obj 1),(145,V.obj 0),(161,V.int true f),(163,V.obj 4)],O.list true [V.tup [V.str false (S [99,104,97,114,115]),V.str false (S [97])],V.tup [V.str false (S [99,104,97,114,115]),V.str false (S [98])],V.tup [V.str false (S [108,101,110]),V.int false 1],V.tup [V.str false (S [97,110,121]),V.str false (S [97,98])],V.tup [V.str false (S [102,101,110,99,101])],V.tup [V.str false (S [97,98,111,114,116])],V.tup [V.str false (S [102,97,105,108])],V.tup [V.str false (S [108,101,110]),V.int false 0]]] (V.int true w) [R,b2,i2,O.frame [(160,V.obj 1),(145,V.obj 0),(161,V.int true f),(163,V.obj 4)],O.list true [V.tup [V.str false dM,V.str false sA],V.tup [V.str false dM,V.str false sB],V.tup [V.str false jp,V.int false 1],V.tup [V.str false kP,V.str false lW],V.tup [V.str false iq],V.tup [V.str false eV],V.tup [V.str false l8],V.tup [V.str false jp,V.int false 0]]],sp 643 [.obj 1,.int false 8] [R,b0,i0,O.frame [(160,V.obj 1),(145,V.obj 0)]] (V.int true f) [R,b1,i1,O.frame [(160,V.obj 1),(145,V.obj 0)]]]:=by
 walk_at"k"
theorem G3:TC sp sl r [0,1,2] [643] 30 650 [.obj 1,.obj 0] ⟨[R,b0,i0],[.k (.int true f) [R,b1,i1,.frame [(ey,.obj 1),(eH,.obj 0)]],.k (.int true w) [R,b2,i2,.frame [(ey,.obj 1),(eH,.obj 0),(lG,.int true f),(lc,.obj 4)],.list true mh],.b false,.b true,.v x],[]⟩ (.tup [.str false (S [108,97,116,101,114]),x,.obj 0]) [R,b2,i2] [0<=f/\f<2^62/\nth mh (Int.toNat f)=some x,decide (w=2)=true,decide (w=1)=false,sp 643 [.obj 1,.int false 4] [R,b1,i1,O.frame [(160,V.obj 1),(145,V.obj 0),(161,V.int true f),(163,V.obj 4)],O.list true [V.tup [V.str false (S [99,104,97,114,115]),V.str false (S [97])],V.tup [V.str false (S [99,104,97,114,115]),V.str false (S [98])],V.tup [V.str false (S [108,101,110]),V.int false 1],V.tup [V.str false (S [97,110,121]),V.str false (S [97,98])],V.tup [V.str false (S [102,101,110,99,101])],V.tup [V.str false (S [97,98,111,114,116])],V.tup [V.str false (S [102,97,105,108])],V.tup [V.str false (S [108,101,110]),V.int false 0]]] (V.int true w) [R,b2,i2,O.frame [(160,V.obj 1),(145,V.obj 0),(161,V.int true f),(163,V.obj 4)],O.list true [V.tup [V.str false dM,V.str false sA],V.tup [V.str false dM,V.str false sB],V.tup [V.str false jp,V.int false 1],V.tup [V.str false kP,V.str false lW],V.tup [V.str false iq],V.tup [V.str false eV],V.tup [V.str false l8],V.tup [V.str false jp,V.int false 0]]],sp 643 [.obj 1,.int false 8] [R,b0,i0,O.frame [(160,V.obj 1),(145,V.obj 0)]] (V.int true f) [R,b1,i1,O.frame [(160,V.obj 1),(145,V.obj 0)]]]:=by
 walk_at"k"
theorem Gb(sp:jA)(sl:jz)(r:Nat)(f w:Int)(x:V)(R b0 i0 b1 i1 b2 i2:O):TC sp sl r [0,1,2] [643] 30 650 [.obj 1,.obj 0] ⟨[R,b0,i0],[.k (.int true f) [R,b1,i1,.frame [(ey,.obj 1),(eH,.obj 0)]],.k (.int true w) [R,b2,i2,.frame [(ey,.obj 1),(eH,.obj 0),(lG,.int true f),(lc,.obj 4)],.list true mh],.b false,.b false,.b true],[]⟩ (.tup [.str false (S [99,117,114,115,111,114]),.obj 0]) [R,b2,i2] [decide (w=3)=true,decide (w=2)=false,decide (w=1)=false,sp 643 [.obj 1,.int false 4] [R,b1,i1,O.frame [(160,V.obj 1),(145,V.obj 0),(161,V.int true f),(163,V.obj 4)],O.list true [V.tup [V.str false (S [99,104,97,114,115]),V.str false (S [97])],V.tup [V.str false (S [99,104,97,114,115]),V.str false (S [98])],V.tup [V.str false (S [108,101,110]),V.int false 1],V.tup [V.str false (S [97,110,121]),V.str false (S [97,98])],V.tup [V.str false (S [102,101,110,99,101])],V.tup [V.str false (S [97,98,111,114,116])],V.tup [V.str false (S [102,97,105,108])],V.tup [V.str false (S [108,101,110]),V.int false 0]]] (V.int true w) [R,b2,i2,O.frame [(160,V.obj 1),(145,V.obj 0),(161,V.int true f),(163,V.obj 4)],O.list true [V.tup [V.str false dM,V.str false sA],V.tup [V.str false dM,V.str false sB],V.tup [V.str false jp,V.int false 1],V.tup [V.str false kP,V.str false lW],V.tup [V.str false iq],V.tup [V.str false eV],V.tup [V.str false l8],V.tup [V.str false jp,V.int false 0]]],sp 643 [.obj 1,.int false 8] [R,b0,i0,O.frame [(160,V.obj 1),(145,V.obj 0)]] (V.int true f) [R,b1,i1,O.frame [(160,V.obj 1),(145,V.obj 0)]]]:=by
 walk_at"k"
theorem FC:TC sp sl r [0,1,2] [643] 30 650 [.obj 1,.obj 0] ⟨[R,b0,i0],[.k (.int true f) [R,b1,i1,.frame [(ey,.obj 1),(eH,.obj 0)]],.k (.int true w) [R,b2,i2,.frame [(ey,.obj 1),(eH,.obj 0),(lG,.int true f),(lc,.obj 4)],.list true mh],.b false,.b false,.b false,.v x],[]⟩ x [R,b2,i2] [0<=f/\f<2^62/\nth mh (Int.toNat f)=some x,decide (w=3)=false,decide (w=2)=false,decide (w=1)=false,sp 643 [.obj 1,.int false 4] [R,b1,i1,O.frame [(160,V.obj 1),(145,V.obj 0),(161,V.int true f),(163,V.obj 4)],O.list true [V.tup [V.str false (S [99,104,97,114,115]),V.str false (S [97])],V.tup [V.str false (S [99,104,97,114,115]),V.str false (S [98])],V.tup [V.str false (S [108,101,110]),V.int false 1],V.tup [V.str false (S [97,110,121]),V.str false (S [97,98])],V.tup [V.str false (S [102,101,110,99,101])],V.tup [V.str false (S [97,98,111,114,116])],V.tup [V.str false (S [102,97,105,108])],V.tup [V.str false (S [108,101,110]),V.int false 0]]] (V.int true w) [R,b2,i2,O.frame [(160,V.obj 1),(145,V.obj 0),(161,V.int true f),(163,V.obj 4)],O.list true [V.tup [V.str false dM,V.str false sA],V.tup [V.str false dM,V.str false sB],V.tup [V.str false jp,V.int false 1],V.tup [V.str false kP,V.str false lW],V.tup [V.str false iq],V.tup [V.str false eV],V.tup [V.str false l8],V.tup [V.str false jp,V.int false 0]]],sp 643 [.obj 1,.int false 8] [R,b0,i0,O.frame [(160,V.obj 1),(145,V.obj 0)]] (V.int true f) [R,b1,i1,O.frame [(160,V.obj 1),(145,V.obj 0)]]]:=by
 walk_at"k"
end
theorem AY(a:Nat)(l:List Nat):fb (a::l) a=some 0:=by
 show(match Nat.beq a a with | true=>some 0 | false=>match fb l a with | some j=>some (j+1) | none=>none)=_;rw[Nat.beq_refl]
theorem zI{b:Bs}(G:dI b){lim:Int}{p:List Int×Int}(h:ie p)(hl:lim≠0){os:List O}{i j:Nat}(hi:nth os i=some (gM j p.2))(hj:nth os j=some (fg p.1))(ne:i≠j):
  Ct b 20 643 [.obj i,.int false lim] os (.int true (take lim p).1) (fB os [i,j] [gM j (take lim p).2.2,fg (take lim p).2.1]++[]):=by
 have e0:fb [i,j] i=some 0:=AY i [j];have e1:fb [i,j] j=some 1:=by
  have:Nat.beq i j=false:=by
   cases q:Nat.beq i j with
   |false=>rfl
   |true=>exact absurd (aP q) ne
  show(match Nat.beq i j with | true=>some 0 | false=>match fb [j] j with | some k=>some (k+1) | none=>none)=_;rw[this,AY]
 refine fJ.frame (l:=[i,j]) (I':=[gM j p.2,fg p.1]) (news:=[gM j (take lim p).2.2,fg (take lim p).2.1]) rfl (JN G h hl) (by simp [hi,hj]) (by simp [ne]) ?_ (.k (.o e0) (.k .i .z)) ?_ .i
 .exact .k (.l (.k (.o e1) (.k .i .z))) (.k (.l (.ints _)) .z)
 .exact .k (.l (.k (.o rfl) (.k .i .z))) (.k (.l (.ints _)) .z)
theorem RV.bare0{f:Nat->Option Nat}(b:gw):RV f (bare0 b) (lP b):=by
 cases b<;>exact .t (by first | exact .k .s (.k .s .z) | exact .k .s (.k .i .z) | exact .k .s .z)
def qo(f:Int):gw:=match f.toNat with
 |0=>.ca
 |1=>.cb
 |2=>.len1
 |3=>.any
 |4=>.fence
 |5=>.abort
 |6=>.fail
 |_=>.len0
theorem GD{f:Int}(h0:0<=f)(h1:f<8):nth mh f.toNat=some (bare0 (qo f)):=by
 obtain⟨n,rfl⟩:=Int.eq_ofNat_of_zero_le h0;exact up8 (P:=λn:Nat=>nth mh (n:Int).toNat=some (bare0 (qo n))) (bX.mp h1) rfl rfl rfl rfl rfl rfl rfl rfl
def gk(p:List Int×Int):dZ×List Int×Int:=
 (if(take 4 (take 8 p).2).1=1 then .mk .now (qo (take 8 p).1) else if(take 4 (take 8 p).2).1=2 then .mk .later (qo (take 8 p).1) else if(take 4 (take 8 p).2).1=3 then .cur else .mk .bare (qo (take 8 p).1),(take 4 (take 8 p).2).2)
theorem BE{p:List Int×Int}(h:ie p):ie (gk p).2:=jd (jd h)
nonrec theorem Jh{b:Bs}{p:List Int×Int}(G:dI b)(h:ie p)(R:O)(hR:RO (fb [0,1,2]) R R):Ct b 50 650 [.obj 1,.obj 0] [R,gM 2 p.2,fg p.1] (db 0 (gk p).1) [R,gM 2 (gk p).2.2,fg (gk p).2.1]:=by
 have ha:=jG (lim:=8) () p;have h1:=jd (lim:=8) h;have q1:=zI (lim:=8) G h () (os:=[R,gM 2 p.2,fg p.1,.frame [(ey,.obj 1),(eH,.obj 0)]]) (i:=1) (j:=2) rfl rfl ();have q2:=zI (lim:=4) G h1 () (os:=[R,gM 2 (take 8 p).2.2,fg (take 8 p).2.1,.frame [(ey,.obj 1),(eH,.obj 0),(lG,.int true (take 8 p).1),(lc,.obj 4)],.list true mh]) (i:=1) (j:=2) rfl rfl ();have m:=GD ha.1 ha.2;have m':0<=(take 8 p).1/\(take 8 p).1<2^62/\nth mh (take 8 p).1.toNat=some (bare0 (qo (take 8 p).1)):=⟨ha.1,Int.lt_trans ha.2 (),m⟩
 have S:∀(z:Int) (xs:List Int),ROs (fb [0,1,2]) [R,gM 2 z,fg xs] [R,gM 2 z,fg xs]:=λz xs=>.k hR (.k (.l (.k (.o rfl) (.k .i .z))) (.k (.l (.ints _)) .z));unfold gk
 by_cases c1:(take 4 (take 8 p).2).1=1
 .rw[if_pos c1]
  exact dF G (r:=20) (n:=30) (l₀:=[643]) [0,1,2] (GO ..) ⟨m',av c1,q2,q1,N4⟩ (S _ _) (.t (.k .s (.k (.bare0 _) (.k (.o rfl) .z))))
 .rw[if_neg c1]
  by_cases c2:(take 4 (take 8 p).2).1=2
  .rw[if_pos c2]
   exact dF G (r:=20) (n:=30) (l₀:=[643]) [0,1,2] (G3 ..) ⟨m',av c2,ag c1,q2,q1,N4⟩ (S _ _) (.t (.k .s (.k (.bare0 _) (.k (.o rfl) .z))))
  .rw[if_neg c2]
   by_cases c3:(take 4 (take 8 p).2).1=3
   .rw[if_pos c3]
    exact dF G (r:=20) (n:=30) (l₀:=[643]) [0,1,2] (Gb _ _ _ (take 8 p).1 (take 4 (take 8 p).2).1 .none R _ _ _ _ _ _) ⟨av c3,ag c2,ag c1,q2,q1,N4⟩ (S _ _) (.t (.k .s (.k (.o rfl) .z)))
   .rw[if_neg c3]
    exact dF G (r:=20) (n:=30) (l₀:=[643]) [0,1,2] (FC ..) ⟨m',ag c3,ag c2,ag c1,q2,q1,N4⟩ (S _ _) (.bare0 _)
section
set_option backward.match.sparseCases false
def oA(s:Str)(a:Int)(f:Bool):List (Nm×V):=[(io,.obj 1),(cS,.str true s),(dW,.int true a),(eP,.obj 2),(gm,.bool f),(lE,.obj 4)]
def rV(s:Str)(a:Int)(f:Bool)(v:V):List (Nm×V):=[(io,.obj 1),(cS,.str true s),(dW,.int true a),(eP,.obj 2),(gm,.bool f),(lE,.obj 4),(dU,v)]
def lF(s:Str)(a:Int)(f:Bool)(v:V)(w:V):List (Nm×V):=[(io,.obj 1),(cS,.str true s),(dW,.int true a),(eP,.obj 2),(gm,.bool f),(lE,.obj 4),(dU,v),(gJ,.int true a),(nO,w)]
def iE(R P:O)(lg:List V)(fr:List (Nm×V))(ns:List V):List O:=[R,P,.list true lg,.frame fr,.list true ns]
section
variable(sp:jA) (sl:jz) (r:Nat) (kd:Str) (R P:O) (lg ns:List V) (s sg:Str) (a:Int) (tl:List V) (n:Int) (f:Bool) (w:V) (L':List V)
theorem zq:TC sp sl r [] [] 20 657 [.tup (.str true kd::tl),.str true s,.int true a] ⟨[],[.b true],[]⟩ .none [] [decide (kd=S [102,97,105,108])=true]:=by
 walk_at"k"
theorem zx:TC sp sl r [] [] 20 657 [.tup (.str true kd::[.str true sg]),.str true s,.int true a] ⟨[],[.b false,.b false,.b true],[]⟩ .none [] [decide (↑(Str.length s)<a+1)=true,Str.length s<2^20,decide (kd=S [108,101,110])=false,decide (kd=S [102,97,105,108])=false]:=by
 walk_at"k"
theorem EM:TC sp sl r [] [] 20 657 [.tup (.str true kd::[.str true sg]),.str true s,.int true a] ⟨[],[.b false,.b false,.b false,.b true,.b true],[]⟩ .none [] [(!Txt.contains sg {cps:=#[Array.getD (Str.cps s) (Int.toNat a) 0]})=true,0<=a/\a<↑(Str.length s)/\a<2^62,decide (kd≠S [108,101,110])=true,decide (↑(Str.length s)<a+1)=false,Str.length s<2^20,decide (kd=S [108,101,110])=false,decide (kd=S [102,97,105,108])=false]:=by
 walk_at"k"
theorem BK:TC sp sl r [] [] 20 657 [.tup (.str true kd::[.str true sg]),.str true s,.int true a] ⟨[],[.b false,.b false,.b false,.b true,.b false],[]⟩ (.int true (a+1)) [] [(!Txt.contains sg {cps:=#[Array.getD (Str.cps s) (Int.toNat a) 0]})=false,0<=a/\a<↑(Str.length s)/\a<2^62,decide (kd≠S [108,101,110])=true,decide (↑(Str.length s)<a+1)=false,Str.length s<2^20,decide (kd=S [108,101,110])=false,decide (kd=S [102,97,105,108])=false]:=by
 walk_at"k"
theorem sd:TC sp sl r [] [] 20 657 [.tup (.str true kd::[.int true n]),.str true s,.int true a] ⟨[],[.b false,.b true,.b true],[]⟩ .none [] [decide (↑(Str.length s)<a+n)=true,Str.length s<2^20,decide (kd=S [108,101,110])=true,decide (kd=S [102,97,105,108])=false]:=by
 walk_at"k"
theorem u9:TC sp sl r [] [] 20 657 [.tup (.str true kd::[.int true n]),.str true s,.int true a] ⟨[],[.b false,.b true,.b false,.b false],[]⟩ (.int true (a+n)) [] [decide (kd≠S [108,101,110])=false,decide (↑(Str.length s)<a+n)=false,Str.length s<2^20,decide (kd=S [108,101,110])=true,decide (kd=S [102,97,105,108])=false]:=by
 walk_at"k"
theorem B0:TS sp sl r [0,1,2,3,4] [657] 30 (d0 js) 3 ⟨iE R P lg (rV s a f (.tup [.str true fH,.obj 0])) ns,[.b false,.b false,.b false,.b true,.b false,.b false],[]⟩ Fl.next [R,P,O.list true (lg++[V.tup [V.str false (S [75]),V.int true a]]),O.frame [(8,V.obj 1),(75,V.str true s),(31,V.int true a),(143,V.obj 2),(165,V.bool f),(164,V.obj 4),(5,V.tup [V.str true fH,V.obj 0]),(76,V.int true a),(166,V.tup [V.str true fH,V.obj 0])],O.list true ns] [decide (fH=S [108,97,116,101,114])=false,decide (fH=S [110,111,119])=false,List.length lg<2^20,decide (fH=S [99,117,114,115,111,114])=true,decide (fH=S [102,101,110,99,101])=false,decide (fH=S [97,98,111,114,116])=false,gG fH [S [110,111,119],S [108,97,116,101,114]]=false]:=by
 walk_at"k"
theorem Dv:TC sp sl r [0,1,2] [] 20 664 [.obj 1,.str true s,.int true a,.obj 2] ⟨[R,P,.list true lg],[.l (.ret w) [R,P,.list true L',.frame [],.any]],[]⟩ w [R,P,.list true L'] [sl js 3 [R,P,O.list true lg,O.frame [(8,V.obj 1),(75,V.str true s),(31,V.int true a),(143,V.obj 2),(165,V.bool false),(164,V.obj 4)],O.list true []] (Fl.ret w) [R,P,O.list true L',O.frame [],O.any]]:=by
 walk_at"k"
theorem IV(sp:jA)(sl:jz)(r:Nat)(R P:O)(lg L' ns:List V)(s:Str)(a e:Int)(f:Bool):TC sp sl r [0,1,2,4] [] 20 664 [.obj 1,.str true s,.int true a,.obj 2] ⟨[R,P,.list true lg],[.l .next (iE R P L' (oA s e f) ns)],[]⟩ (.tup [.int true e,.obj 4,.bool f]) [R,P,.list true L',.list true ns] [sl js 3 [R,P,O.list true lg,O.frame [(8,V.obj 1),(75,V.str true s),(31,V.int true a),(143,V.obj 2),(165,V.bool false),(164,V.obj 4)],O.list true []] Fl.next [R,P,O.list true L',O.frame [(8,V.obj 1),(75,V.str true s),(31,V.int true e),(143,V.obj 2),(165,V.bool f),(164,V.obj 4)],O.list true ns]]:=by
 walk_at"k"
end
def Gd:Option Nat->V
 |none=>.none
 |some e=>.int true (e:Int)
section
variable{b:Bs} {s:Str} {a:Nat}
theorem nM(G:dI b){kd sg:Str}(hs:s.length<1000)(ha:a<=s.length)(h1:kd≠l8)(h2:kd≠jp):
  Ct b 20 657 [.tup [.str true kd,.str true sg],.str true s,.int true (a:Int)] [] (Gd (if s.length<a+1 then none else match Txt.contains sg (gH s a) with | true=>some (a+1) | false=>none)) []:=by
 by_cases c1:s.length<a+1
 .rw[if_pos c1]
  exact cr G _ (zx ..) ⟨av (by omega),by omega,ag h2,ag h1,N4⟩ .z .n
 .rw[if_neg c1]
  cases c2:Txt.contains sg (gH s a) with
  |false=>exact cr G _ (EM ..) ⟨by show(!Txt.contains sg (gH s a))=true;rw[c2];rfl,⟨by omega,by omega,by omega⟩,av h2,ag (by omega),by omega,ag h2,ag h1,N4⟩ .z .n
  |true=>exact cr G _ (BK ..) ⟨by show(!Txt.contains sg (gH s a))=false;rw[c2];rfl,⟨by omega,by omega,by omega⟩,av h2,ag (by omega),by omega,ag h2,ag h1,N4⟩ .z .i
theorem uI(G:dI b){n:Nat}(hs:s.length<1000):
  Ct b 20 657 [.tup [.str true jp,.int true (n:Int)],.str true s,.int true (a:Int)] [] (Gd (if s.length<a+n then none else some (a+n))) []:=by
 by_cases c1:s.length<a+n
 .rw[if_pos c1]
  exact cr G _ (sd ..) ⟨av (by omega),by omega,by decide,by decide,N4⟩ .z .n
 .rw[if_neg c1]
  exact cr G _ (u9 ..) ⟨by decide,ag (by omega),by omega,by decide,by decide,N4⟩ .z .i
theorem KO(G:dI b)(hs:s.length<1000)(ha:a<=s.length)(bb:gw)(h1:fI bb=false)(h2:eh bb=false):
  Ct b 20 657 [lP bb,.str true s,.int true (a:Int)] [] (Gd (eX s a bb)) []:=by
 cases bb with
 |ca=>exact nM G hs ha () ()
 |cb=>exact nM G hs ha () ()
 |any=>exact nM G hs ha () ()
 |len1=>exact uI G hs
 |len0=>exact uI G hs
 |fail=>exact cr G _ (zq ..) ⟨by decide,N4⟩ .z .n
 |fence=>cases h1
 |abort=>cases h2
theorem K7(G:dI b)(hs:s.length<1000)(ha:a<=s.length)(bb:gw)(h1:fI bb=false)(h2:eh bb=false)(os:List O):
  Ct b 20 657 [lP bb,.str true s,.int true (a:Int)] os (Gd (eX s a bb)) (fB os [] []++[]):=
 fJ.frame (l:=[]) (I':=[]) (news:=[]) rfl (KO G hs ha bb h1 h2) rfl .nil .z (.k (.bare _) (.k .s (.k .i .z))) .z (by cases eX s a bb<;>first | exact .n | exact .i)
def mP:Str:=S [111,118,101,114]
def zO(R P:O)(s:Str)(x:fP×List LE)(fl:Fl)(σ:List O):Prop:=match x with
 |(.over,lg)=>fl= .ret (.str false mP)/\σ=[R,P,.list true (lg.map d4),.frame [],.any]
 |(.no,lg)=>fl= .ret .none/\σ=[R,P,.list true (lg.map d4),.frame [],.any]
 |(.ok a ns f,lg)=>fl= .next/\σ=iE R P (lg.map d4) (oA s (a:Int) f) (ns.map nJ)
theorem tu{e:Nat}{b:gw}(ha:a<=s.length)(h:eX s a b=some e):e<=s.length:=by
 have go:∀{n:Nat} {x:Option Nat},(if s.length<n then none else x)=some e->(x=some e->e=n)->e<=s.length:=λ{n x} h k=>by
  by_cases c:s.length<n
  .rw[if_pos c] at h
   cases h
  .rw[if_neg c] at h
   exact k h▸bA c
 have sg:∀{y:Bool},(match y with | true=>some (a+1) | false=>none)=some e->e=a+1:=λ{y} k=>by
  cases y with
  |true=>exact(ac k).symm
  |false=>cases k
 cases b with
 |len1=>exact go h λk=>(ac k).symm
 |len0=>exact go h λk=>(ac k).symm
 |fail=>cases h
 |fence=>exact ac h▸ha
 |abort=>cases h
 |_=>exact go h sg
def EQ(R P:O)(s:Str)(ps:List dZ)(x:fP×List LE)(n₀:Nat)(j:Nat)(σ:List O):Prop:=
 ∃(a:Nat) (f:Bool) (ns:List Str) (lg:List LE),σ=iE R P (lg.map d4) (oA s (a:Int) f) (ns.map nJ)/\d3 s (ps.drop j) a f ns lg=x/\a<=s.length/\ns.length<=j/\lg.length<=n₀+j
theorem vT{α:Type}:∀{l:List α} {j:Nat} {x:α},nth l j=some x->l.drop j=x::l.drop (j+1)
 |[],_,_,h=>by cases h
 |a::l,0,x,h=>by cases h;rfl
 |a::l,j+1,x,h=>vT (l:=l) h
theorem jg(s:Str)(m:lY)(b:gw)(ps:List dZ)(a:Nat)(f:Bool)(ns:List Str)(lg:List LE):d3 s (.mk m b::ps) a f ns lg=match eh b with
  |true=>(.over,lg)
  |false=>match eX s a b with
   |none=>(if f then .over else .no,lg)
   |some e=>match m with
    | .bare=>d3 s ps e (fI b||f) ns lg
    | .now=>d3 s ps e (fI b||f) ns (lg++[.tx (cut s a e)])
    | .later=>d3 s ps e (fI b||f) (ns++[cut s a e]) lg:=rfl
theorem w7{n:Nat}(h:n<1000):n<=sizeLine:=by have:=dv;omega
def Mq:lY->Bool
 | .bare=>false
 |_=>true
def Dq(m:lY)(w:V):V:=match m with
 | .bare=>w
 | .now=>.tup [.str true nB,w,.obj 0]
 | .later=>.tup [.str true hZ,w,.obj 0]
def MW(m:lY)(kd:Str):Str:=match m with
 | .bare=>kd
 | .now=>nB
 | .later=>hZ
def MG(m:lY)(lg:List V)(s:Str)(a e:Int):List V:=match m with
 | .now=>lg++[.tup [.str false (S [75]),.str true (Txt.slice s (some a) (some e))]]
 |_=>lg
def Mi(m:lY)(ns:List V)(s:Str)(a e:Int):List V:=match m with
 | .later=>ns++[.tup [.str false (S [75]),.str true (Txt.slice s (some a) (some e))]]
 |_=>ns
def J0(m:lY)(lg:List LE)(t:Str):List LE:=match m with
 | .now=>lg++[.tx t]
 |_=>lg
def JT(m:lY)(ns:List Str)(t:Str):List Str:=match m with
 | .later=>ns++[t]
 |_=>ns
def M2:lY->List Ch
 | .bare=>[.b false,.b false]
 | .now=>[.b true,.b false]
 | .later=>[.b false,.b true]
def cM(m:lY)(lg ns:List V)(s kd:Str):List Prop:=match m with
 | .bare=>[decide (kd=hZ)=false,decide (kd=nB)=false]
 | .now=>[decide (nB=hZ)=false,lg.length<2^20,s.length<=sizeLine,decide (nB=nB)=true]
 | .later=>[ns.length<2^20,s.length<=sizeLine,decide (hZ=hZ)=true,decide (hZ=nB)=false]
def M4(f:Bool):V:=match f with
 |true=>.str false mP
 |false=>.none
def IO(s:Str)(a:Int)(f:Bool)(v:V)(w:V):List (Nm×V):=[(io,.obj 1),(cS,.str true s),(dW,.int true a),(eP,.obj 2),(gm,.bool f),(lE,.obj 4),(dU,v),(gJ,.none),(nO,w)]
end
section
variable(sp:jA) (sl:jz) (r:Nat) (R P:O) (lg ns:List V) (s:Str) (a:Int) (f:Bool) (m:lY) (kd:Str) (tl:List V)
abbrev LH(ch:List Ch)(fl:Fl)(G':List V)(fr:List (Nm×V))(N0:List V)(cs:List Prop):Prop:=
 Option.map (C3 [0,1,2,3,4]) (MM sp sl r [657] 30 (d0 js) 3 ⟨iE R P lg (rV s a f (Dq m (.tup (.str true kd::tl)))) ns,.b (Mq m)::ch,[]⟩)=some (fl,List.map some (iE R P G' fr N0),cs++[gG (MW m kd) [nB,hZ]=Mq m])
abbrev Kz(w:V):Prop:=sp 657 [.tup (.str true kd::tl),.str true s,.int true a] (iE R P lg (lF s a f (Dq m (.tup (.str true kd::tl))) (.tup (.str true kd::tl))) ns) w (iE R P lg (lF s a f (Dq m (.tup (.str true kd::tl))) (.tup (.str true kd::tl))) ns)
theorem wM:LH sp sl r R P lg ns s a f m kd tl [.b true] (.ret (.str false mP)) lg (lF s a f (Dq m (.tup (.str true kd::tl))) (.tup (.str true kd::tl))) ns [decide (kd=eV)=true]:=by cases m<;>walk_at"k"
theorem xJ:LH sp sl r R P lg ns s a f m kd tl (.b false:: .b true::M2 m) .next (MG m lg s a a) (lF s a true (Dq m (.tup (.str true kd::tl))) (.tup (.str true kd::tl))) (Mi m ns s a a) (cM m lg ns s kd++[decide (kd=iq)=true,decide (kd=eV)=false]):=by cases m<;>walk_at"k"
theorem xY:LH sp sl r R P lg ns s a f m kd tl [.b false,.b false,.b false,.k .none (iE R P lg (lF s a f (Dq m (.tup (.str true kd::tl))) (.tup (.str true kd::tl))) ns)] (.ret (M4 f)) lg (IO s a f (Dq m (.tup (.str true kd::tl))) (.tup (.str true kd::tl))) ns [Kz sp R P lg ns s a f m kd tl .none,decide (kd=fH)=false,decide (kd=iq)=false,decide (kd=eV)=false]:=by cases m<;>cases f<;>walk_at"k"
theorem xZ(e:Int):LH sp sl r R P lg ns s a f m kd tl (.b false:: .b false:: .b false:: .k (.int true e) (iE R P lg (lF s a f (Dq m (.tup (.str true kd::tl))) (.tup (.str true kd::tl))) ns)::M2 m) .next (MG m lg s a e) (lF s e f (Dq m (.tup (.str true kd::tl))) (.tup (.str true kd::tl))) (Mi m ns s a e) (cM m lg ns s kd++[Kz sp R P lg ns s a f m kd tl (.int true e),decide (kd=fH)=false,decide (kd=iq)=false,decide (kd=eV)=false]):=by cases m<;>walk_at"k"
end
theorem kT:∀{l r:List Prop},jx l->jx r->jx (l++r)
 |[],_,_,k=>k
 |_::_,_,h,k=>⟨h.1,kT h.2 k⟩
theorem l9(s:Str)(m:lY)(b:gw)(ps:List dZ)(a:Nat)(f:Bool)(ns:List Str)(lg:List LE){e:Nat}(h:eh b=false)(k:eX s a b=some e):d3 s (.mk m b::ps) a f ns lg=d3 s ps e (fI b||f) (JT m ns (cut s a e)) (J0 m lg (cut s a e)):=by
 rw[jg,h,k];cases m<;>rfl
theorem uU(s:Str)(m:lY)(b:gw)(ps:List dZ)(a:Nat)(f:Bool)(ns:List Str)(lg:List LE)(h:eh b):d3 s (.mk m b::ps) a f ns lg=(.over,lg):=by
 rw[jg,h]
theorem u3(s:Str)(m:lY)(b:gw)(ps:List dZ)(a:Nat)(f:Bool)(ns:List Str)(lg:List LE)(h:eh b=false)(k:eX s a b=none):d3 s (.mk m b::ps) a f ns lg=(if f then .over else .no,lg):=by
 rw[jg,h,k]
theorem oX{s:Str}{P:List dZ->Nat->Bool->List Str->List LE->fP×List LE->Prop}(h0:∀a f ns lg,P [] a f ns lg (.ok a ns f,lg))(h1:∀ps a f ns lg x,P ps a f ns (lg++[.at a]) x->P (.cur::ps) a f ns lg x)
  (h2:∀m b ps a f ns lg,eh b=true->P (.mk m b::ps) a f ns lg (.over,lg)) (h3:∀m b ps a f ns lg,eh b=false->eX s a b=none->P (.mk m b::ps) a f ns lg (if f then .over else .no,lg))
  (h4:∀m b ps a f ns lg e x,eh b=false->eX s a b=some e->P ps e (fI b||f) (JT m ns (cut s a e)) (J0 m lg (cut s a e)) x->P (.mk m b::ps) a f ns lg x) (ps:List dZ):∀a f ns lg,P ps a f ns lg (d3 s ps a f ns lg):=by
 induction ps with
 |nil=>exact h0
 |cons p ps ih=>
  intro a f ns lg;cases p with
  |cur=>exact h1 _ _ _ _ _ _ (ih _ _ _ _)
  |mk m b=>
   cases e:eh b with
   |true=>rw[uU s m b ps a f ns lg e];exact h2 _ _ _ _ _ _ _ e
   |false=>
    cases k:eX s a b with
    |none=>rw[u3 s m b ps a f ns lg e k];exact h3 _ _ _ _ _ _ _ e k
    |some z=>rw[l9 s m b ps a f ns lg e k];exact h4 _ _ _ _ _ _ _ _ _ e k (ih _ _ _ _)
theorem FrR.row2{f:Nat->Option Nat}(h1:f 1=some 1)(h2:f 2=some 2)(h4:f 4=some 4){s:Str}{e:Int}{g:Bool}{v w:V}:FrR f (lF s e g v w) (oA s e g):=
 .k rfl (.o h1) (.k rfl .s (.k rfl .i (.k rfl (.o h2) (.k rfl .b (.k rfl (.o h4) .z)))))
section
variable{bb:gw}
theorem KJ(h:eh bb):qr bb=eV:=by cases bb<;>first | rfl | cases h
theorem HV(h:fI bb):qr bb=iq/\∀s a,eX s a bb=some a:=by cases bb<;>first | exact⟨rfl,λI I=>rfl⟩ | cases h
theorem Kc(h:eh bb=false):qr bb≠eV:=by cases bb<;>first | decide | cases h
theorem KB(h:fI bb=false):qr bb≠iq:=by cases bb<;>first | decide | cases h
theorem AF(bb:gw):gG (qr bb) [nB,hZ]=false/\qr bb≠hZ/\qr bb≠nB/\qr bb≠fH:=by cases bb<;>decide
end
nonrec theorem Jj{b:Bs}{R P:O}{s:Str}{ps:List dZ}{x:fP×List LE}{n₀:Nat}{EI:eZ}{j a:Nat}{ns:List Str}{lg:List LE}{f:Bool}{bb:gw}(G:dI b){m:lY}(hR:RO (fb [0,1,2,3,4]) R R)(hP:RO (fb [0,1,2,3,4]) P P)(hs:s.length<1000)(hp:ps.length<1000)(hl:n₀<1000)(hj:j<ps.length)(h1:d3 s (.mk m bb::ps.drop (j+1)) a f ns lg=x)(ha:a<=s.length)(hn:ns.length<=j)(hg:lg.length<=n₀+j):iC (C b) 20 (fe [657]) (fe []) EI False 30 5 (d0 js) 3 (iE R P (lg.map d4) (rV s (a:Int) f (Dq m (lP bb))) (ns.map nJ)) (zO R P s x) (λI=>False) (EQ R P s ps x n₀ (j+1)):=by
 have big:=w7 hs;have lgl:(lg.map d4).length<2^20:=by rw[af];omega
 have nsl:(ns.map nJ).length<2^20:=by rw[af];omega
 have k0:gG (MW m (qr bb)) [nB,hZ]=Mq m:=by
  cases m with
  |bare=>exact(AF bb).1
  |_=>rfl
 have kM:jx (cM m (lg.map d4) (ns.map nJ) s (qr bb)):=by
  cases m with
  |bare=>exact⟨ag (AF bb).2.1,ag (AF bb).2.2.1,N4⟩
  |now=>exact⟨by decide,lgl,big,by decide,N4⟩
  |later=>exact⟨nsl,big,by decide,by decide,N4⟩
 have S1:∀(fr:List (Nm×V)),ROs (fb [0,1,2,3,4]) (iE R P (lg.map d4) fr (ns.map nJ)) [R,P,.list true (lg.map d4),.frame [],.any]:=λfr=>
  .k hR (.k hP (.k (.l (.les _)) (.k (.f .z) (.k .lstAny .z))))
 have S2:∀(e:Nat) (g:Bool) (v w:V),ROs (fb [0,1,2,3,4]) (iE R P (MG m (lg.map d4) s a e) (lF s e g v w) (Mi m (ns.map nJ) s a e)) (iE R P ((J0 m lg (cut s a e)).map d4) (oA s (e:Int) g) ((JT m ns (cut s a e)).map nJ)):=λe g v w=>
  .k hR (.k hP (.k (.l (by
   cases m with
   |now=>exact .snoc (.les _) (.le (LE.tx (cut s a e)))
   |_=>exact .les _)) (.k (.f (.row2 (f:=fb [0,1,2,3,4]) rfl rfl rfl)) (.k (.l (by
   cases m with
   |later=>exact .snoc (.nms _) (.nm (cut s a e))
   |_=>exact .nms _)) .z))))
 have ge:∀(e:Nat) (g:Bool),e<=s.length->d3 s (ps.drop (j+1)) e g (JT m ns (cut s a e)) (J0 m lg (cut s a e))=x->EQ R P s ps x n₀ (j+1) (iE R P ((J0 m lg (cut s a e)).map d4) (oA s (e:Int) g) ((JT m ns (cut s a e)).map nJ)):=λe g he h=>⟨e,g,_,_,rfl,h,he,by
   cases m with
   |later=>exact(ai).symm▸aC hn
   |_=>exact aG hn,by
   cases m with
   |now=>exact(ai).symm▸aC hg
   |_=>exact aG hg⟩
 cases hab:eh bb with
 |true=>
  have hx:x=(.over,lg):=by rw[<-h1,jg,hab]
  have kd:=KJ hab;rw[hx];exact fT [0,1,2,3,4] (wM ..) ⟨av kd,k0,N4⟩ (S1 _) .s ⟨rfl,rfl⟩
 |false=>
  have k1:=Kc hab;cases hf:fI bb with
  |true=>
   have kd:=(HV hf).1;have he:=(HV hf).2 s a;rw[l9 s m bb _ a f ns lg hab he,hf] at h1;exact eQ [0,1,2,3,4] (xJ ..) (kT (kT kM ⟨av kd,ag k1,N4⟩) ⟨k0,N4⟩) (S2 a true _ _) (ge a true ha h1)
  |false=>
   have k2:=KB hf;have k3:=(AF bb).2.2.2;have q:=K7 G hs ha bb hf hab;cases he:eX s a bb with
   |none=>
    rw[jg,hab,he] at h1;rw[he] at q;rw[<-h1];have e:=fT (NP:=zO R P s (if f then .over else .no,lg)) (XP:=λI=>False) (J:=EQ R P s ps (if f then .over else .no,lg) n₀ (j+1)) (EI:=EI) (rz:=False) (orc':=fe []) (k:=5) (b:=b) (r:=20) (w:=M4 f) [0,1,2,3,4] (xY (m:=m) (kd:=qr bb) (tl:=EA bb) (a:=a) (f:=f) ..) ⟨q _,ag k3,ag k2,ag k1,k0,N4⟩ (S1 _) (by cases f<;>first | exact .n | exact .s) (by cases f<;>exact⟨rfl,rfl⟩);exact e
   |some e=>
    rw[l9 s m bb _ a f ns lg hab he,hf] at h1;rw[he] at q;exact eQ [0,1,2,3,4] (xZ ..) (kT (kT kM ⟨q _,ag k3,ag k2,ag k1,N4⟩) ⟨k0,N4⟩) (S2 e f _ _) (ge e f (tu ha he) h1)
theorem Es{b:Bs}{R P:O}{s:Str}{ps:List dZ}{x:fP×List LE}{n₀:Nat}{EI:eZ}{j a:Nat}{ns:List Str}{lg:List LE}(G:dI b)(hR:RO (fb [0,1,2,3,4]) R R)(hP:RO (fb [0,1,2,3,4]) P P)(hs:s.length<1000)(hp:ps.length<1000)(hl:n₀<1000){p:dZ}(ej:nth ps j=some p){f:Bool}(h1:d3 s (ps.drop j) a f ns lg=x)(ha:a<=s.length)(hn:ns.length<=j)(hg:lg.length<=n₀+j):iC (C b) 20 (fe [657]) (fe []) EI False 30 5 (d0 js) 3 (iE R P (lg.map d4) (rV s (a:Int) f (db 0 p)) (ns.map nJ)) (zO R P s x) (λI=>False) (EQ R P s ps x n₀ (j+1)):=by
 rw[vT ej] at h1;cases p with
 |cur=>
  have h1:d3 s (ps.drop (j+1)) a f ns (lg++[LE.at a])=x:=h1;exact eQ [0,1,2,3,4] (B0 ..) ⟨by decide,by decide,by rw[af];have:=fO ej;omega,by decide,by decide,by decide,by decide,N4⟩ (H':=iE R P ((lg++[LE.at a]).map d4) (oA s (a:Int) f) (ns.map nJ)) (.k hR (.k hP (.k (.l (.snoc (.les _) (.le (LE.at a)))) (.k (.f (.row2 (f:=fb [0,1,2,3,4]) rfl rfl rfl)) (.k (.l (.nms _)) .z))))) ⟨a,f,ns,lg++[LE.at a],rfl,h1,ha,aG hn,(ai).symm▸aC hg⟩
 |mk m bb=>
  rw[show db 0 (.mk m bb)=Dq m (lP bb) from by cases m<;>rfl];exact Jj G hR hP hs hp hl (fO ej) h1 ha hn hg
nonrec theorem EU{b:Bs}{R:O}{s:Str}{ps:List dZ}{x:fP×List LE}{EI:eZ}{a₀:Nat}{lg2:List LE}(G:dI b)(hR:∀f,RO f R R)(hs:s.length<1000)(hp:ps.length<1000)(ha:a₀<=s.length)(hl:lg2.length<1000)(hx:d3 s ps a₀ false [] lg2=x):dL ((C b).at (30+20)) EI False js 3 (iE R (.list true (ps.map (db 0))) (lg2.map d4) (oA s (a₀:Int) false) []) (zO R (.list true (ps.map (db 0))) s x) (λI=>False):=by
 have hP:RO (fb [0,1,2,3,4]) (.list true (ps.map (db 0))) (.list true (ps.map (db 0))):=.l (.parts (by rfl) _);have K:=dD G (l:=[657]) ();show dL _ _ _ (.for dU (.loc io) (d0 js)) _ _ _ _;refine rL (c:=C b) (k:=5) (N2:=.lst 1 (ps.map (db 0))) G.X G.F K (dD G (l:=[]) ()) (orc':=fe []) (ao _) (kS G.X G.F K (st:=⟨iE R (.list true (ps.map (db 0))) (lg2.map d4) (oA s (a₀:Int) false) [],[],[]⟩) (y:=true) rfl (λI m=>by cases m) rfl) (by intro z;cases z)
  (EQ R (.list true (ps.map (db 0))) s ps x lg2.length) ⟨a₀,false,[],lg2,rfl,hx,ha,aJ _,ao _⟩ (λi xs z=>by cases z;decide) (λj σ hI=>?_) (λj σ v hI hv=>?_) (λσ hI=>?_)
 .obtain⟨a,f,ns,lg,rfl,_⟩:=hI
  exact⟨true,rfl⟩
 .obtain⟨a,f,ns,lg,rfl,h1,h2,h3,h4⟩:=hI
  have hv:nth (ps.map (db 0)) j=some v:=hv;rw[jE] at hv;obtain⟨p,ep,rfl⟩:=aq.mp hv;exact⟨⟨iE R (.list true (ps.map (db 0))) (lg.map d4) (rV s (a:Int) f (db 0 p)) (ns.map nJ),[],[]⟩,rfl,Es G (hR _) hP hs hp hl ep h1 h2 h3 h4⟩
 .obtain⟨a,f,ns,lg,rfl,h1,h2,h3,h4⟩:=hI
  have:ps.drop (qX.lst 1 (ps.map (db 0))).len=[]:=by
   show ps.drop (ps.map (db 0)).length=[]
   rw[af,List.drop_length]
  rw[this] at h1;refine⟨some,dg.id ?_⟩;rw[<-h1];exact⟨rfl,rfl⟩
def Mf:fP->V
 | .over=>.str false mP
 | .no=>.none
 | .ok a _ f=>.tup [.int true (a:Int),.obj 3,.bool f]
def DM:fP->List O
 | .ok _ ns _=>[.list true (ns.map nJ)]
 |_=>[]
theorem J7{b:Bs}{R:O}{s:Str}{ps:List dZ}{x:fP×List LE}(G:dI b)(hR:∀f,RO f R R)(hs:s.length<1000)(hp:ps.length<1000){a:Nat}{lg:List LE}(ha:a<=s.length)(hl:lg.length<1000)(hx:d3 s ps a false [] lg=x):
  Ct b 70 664 [.obj 1,.str true s,.int true (a:Int),.obj 2] [R,.list true (ps.map (db 0)),.list true (lg.map d4)] (Mf x.1) ([R,.list true (ps.map (db 0)),.list true (x.2.map d4)]++DM x.1):=by
 have L:=EU (EI:=λI I I=>True) G hR hs hp ha hl hx;obtain⟨rr,G'⟩:=x;cases rr with
 |over=>exact dF G (r:=50) (n:=20) (l₀:=[]) [0,1,2] (Dv ..) ⟨dL.normal L,N4⟩ (.k (hR _) (.k (.l (.parts (by rfl) _)) (.k (.l (.les _)) .z))) .s
 |no=>exact dF G (r:=50) (n:=20) (l₀:=[]) [0,1,2] (Dv ..) ⟨dL.normal L,N4⟩ (.k (hR _) (.k (.l (.parts (by rfl) _)) (.k (.l (.les _)) .z))) .n
 |ok e ns f=>exact dF G (r:=50) (n:=20) (l₀:=[]) [0,1,2,4] (IV ..) ⟨dL.normal L,N4⟩ (.k (hR _) (.k (.l (.parts (by rfl) _)) (.k (.l (.les _)) (.k (.l (.nms _)) .z)))) (.t (.k .i (.k (.o rfl) (.k .b .z))))
end
section
set_option tactic.hygienic true
def jY(s:Str)(an:Bool):List (Nm×V):=[(gY,.obj 1),(gV,.obj 2),(cS,.str true s),(cT,.bool an),(eP,.obj 4)]
def fM(s:Str)(an:Bool)(j:Int):List (Nm×V):=[(gY,.obj 1),(gV,.obj 2),(cS,.str true s),(cT,.bool an),(eP,.obj 4),(dB,.int true j)]
def kr(s:Str)(an:Bool)(j a:Int)(f:Bool):List (Nm×V):=[(gY,.obj 1),(gV,.obj 2),(cS,.str true s),(cT,.bool an),(eP,.obj 4),(dB,.int true j),(mS,.tup [.int true a,.obj 5,.bool f]),(kE,.obj 6)]
section
variable(sp:jA) (sl:jz) (r:Nat) (R F B:O) (lg L':List V) (s:Str) (an:Bool) (j a:Int) (f:Bool) (ns rs:List V) (e:Int) (f2:Bool) (ms:List V)
theorem yx:TS sp sl r [0,1,2,3,4] [664] 30 (d0 gg) 3 ⟨[R,F,B,.frame (fM s an j),.list true lg],[.k (.str false mP) ([R,F,B,.frame (fM s an j),.list true L'])],[]⟩ (Fl.ret (.tup [.tup [.str false (S [110,111,110,101])],.obj 4])) [R,F,B,.frame [(168,.obj 1),(169,.obj 2),(75,.str true s),(132,.bool an),(143,.obj 4),(108,.int true j),(170,.str false mP)],.list true L'] [sp 664 [.obj 1,.str true s,.int true j,.obj 4] [R,F,B,O.frame (fM s an j),O.list true lg] (V.str false mP) [R,F,B,O.frame (fM s an j),O.list true L']]:=by
 walk_at"k"
theorem DI:TS sp sl r [0,1,2,3,4] [664] 30 (d0 gg) 3 ⟨[R,F,B,.frame (fM s an j),.list true lg],[.k (.none) ([R,F,B,.frame (fM s an j),.list true L'])],[]⟩ Fl.next [R,F,B,.frame [(168,.obj 1),(169,.obj 2),(75,.str true s),(132,.bool an),(143,.obj 4),(108,.int true j),(170,.none)],.list true L'] [sp 664 [.obj 1,.str true s,.int true j,.obj 4] [R,F,B,O.frame (fM s an j),O.list true lg] V.none [R,F,B,O.frame (fM s an j),O.list true L']]:=by
 walk_at"k"
theorem wA:TS sp sl r [0,1,2,3,4,6] [664] 30 (d0 gg) 3 ⟨[R,F,B,.frame (fM s an j),.list true lg],[.k (.tup [.int true a,.obj 5,.bool f]) ([R,F,B,.frame (fM s an j),.list true L']++[.list true ns]),.k (.none) ([R,F,B,.frame (kr s an j a f),.list true L',.list true ns,.list true rs])],[]⟩ (Fl.ret (.tup [.tup [.str false (S [114,111,117,110,100]),.obj 6],.obj 4])) [R,F,B,.frame [(168,.obj 1),(169,.obj 2),(75,.str true s),(132,.bool an),(143,.obj 4),(108,.int true j),(170,.tup [.int true a,.obj 5,.bool f]),(172,.obj 6),(173,.none)],.list true L',.list true rs] [sp 664 [.obj 2,.str true s,.int true a,.obj 6] [R,F,B,O.frame (kr s an j a f),O.list true L',O.list true ns,O.list true []] V.none [R,F,B,O.frame (kr s an j a f),O.list true L',O.list true ns,O.list true rs],sp 664 [.obj 1,.str true s,.int true j,.obj 4] [R,F,B,O.frame (fM s an j),O.list true lg] (V.tup [V.int true a,V.obj 5,V.bool f]) [R,F,B,O.frame (fM s an j),O.list true L',O.list true ns]]:=by
 walk_at"k"
theorem wZ:TS sp sl r [0,1,2,3,4,7] [664] 30 (d0 gg) 3 ⟨[R,F,B,.frame (fM s an j),.list true lg],[.k (.tup [.int true a,.obj 5,.bool f]) ([R,F,B,.frame (fM s an j),.list true L']++[.list true ns]),.k (.str false mP) ([R,F,B,.frame (kr s an j a f),.list true L',.list true ns,.list true rs])],[]⟩ (Fl.ret (.tup [.tup [.str false (S [110,111,110,101])],.obj 7])) [R,F,B,O.frame [(168,V.obj 1),(169,V.obj 2),(75,V.str true s),(132,V.bool an),(143,V.obj 4),(108,V.int true j),(170,V.tup [V.int true a,V.obj 5,V.bool f]),(172,V.obj 6),(173,V.str false mP)],O.list true L',O.list true (L'++rs)] [List.length L'+List.length rs<=sizeLine,sp 664 [.obj 2,.str true s,.int true a,.obj 6] [R,F,B,O.frame (kr s an j a f),O.list true L',O.list true ns,O.list true []] (V.str false mP) [R,F,B,O.frame (kr s an j a f),O.list true L',O.list true ns,O.list true rs],sp 664 [.obj 1,.str true s,.int true j,.obj 4] [R,F,B,O.frame (fM s an j),O.list true lg] (V.tup [V.int true a,V.obj 5,V.bool f]) [R,F,B,O.frame (fM s an j),O.list true L',O.list true ns]]:=by
 walk_at"k"
theorem BC:TS sp sl r [0,1,2,3,4,9,8] [664] 30 (d0 gg) 3 ⟨[R,F,B,.frame (fM s an j),.list true lg],[.k (.tup [.int true a,.obj 5,.bool f]) ([R,F,B,.frame (fM s an j),.list true L']++[.list true ns]),.k (.tup [.int true e,.obj 7,.bool f2]) ([R,F,B,.frame (kr s an j a f),.list true L',.list true ns,.list true rs]++[.list true ms])],[]⟩ (Fl.ret (.tup [.tup [.str false (S [109,101,116]),.int true j,.int true e,.obj 8],.obj 9])) [R,F,B,O.frame [(168,V.obj 1),(169,V.obj 2),(75,V.str true s),(132,V.bool an),(143,V.obj 4),(108,V.int true j),(170,V.tup [V.int true a,V.obj 5,V.bool f]),(172,V.obj 6),(173,V.tup [V.int true e,V.obj 7,V.bool f2])],O.list true L',O.list true (L'++rs),O.list true (ns++ms)] [List.length L'+List.length rs<=sizeLine,List.length ns+List.length ms<=sizeLine,sp 664 [.obj 2,.str true s,.int true a,.obj 6] [R,F,B,O.frame (kr s an j a f),O.list true L',O.list true ns,O.list true []] (V.tup [V.int true e,V.obj 7,V.bool f2]) [R,F,B,O.frame (kr s an j a f),O.list true L',O.list true ns,O.list true rs,O.list true ms],sp 664 [.obj 1,.str true s,.int true j,.obj 4] [R,F,B,O.frame (fM s an j),O.list true lg] (V.tup [V.int true a,V.obj 5,V.bool f]) [R,F,B,O.frame (fM s an j),O.list true L',O.list true ns]]:=by
 walk_at"k"
theorem Ju:TC sp sl r [0,1,2,4] [] 20 671 [.obj 1,.obj 2,.str true s,.bool an] ⟨[R,F,B],[.l .next [R,F,B,.frame (jY s an),.list true lg]],[]⟩ (.tup [.tup [.str false (S [110,111,110,101])],.obj 4]) [R,F,B,.list true lg] [sl gg 3 [R,F,B,O.frame (jY s an),O.list true []] Fl.next [R,F,B,O.frame (jY s an),O.list true lg]]:=by
 walk_at"k"
theorem Iv:TC sp sl r [0,1,2,4] [] 20 671 [.obj 1,.obj 2,.str true s,.bool an] ⟨[R,F,B],[.l (.ret (.tup [.tup [.str true jo],.obj 4])) [R,F,B,.frame [],.list true lg]],[]⟩ (.tup [.tup [.str true jo],.obj 4]) [R,F,B,.list true lg] [sl gg 3 [R,F,B,O.frame (jY s an),O.list true []] (Fl.ret (V.tup [V.tup [V.str true jo],V.obj 4])) [R,F,B,O.frame [],O.list true lg]]:=by
 walk_at"k"
theorem IK:TC sp sl r [0,1,2,5] [] 20 671 [.obj 1,.obj 2,.str true s,.bool an] ⟨[R,F,B],[.l (.ret (.tup [.tup [.str true jo],.obj 5])) [R,F,B,.frame [],.any,.list true lg]],[]⟩ (.tup [.tup [.str true jo],.obj 5]) [R,F,B,.list true lg] [sl gg 3 [R,F,B,O.frame (jY s an),O.list true []] (Fl.ret (V.tup [V.tup [V.str true jo],V.obj 5])) [R,F,B,O.frame [],O.any,O.list true lg]]:=by
 walk_at"k"
theorem JJ:TC sp sl r [0,1,2,4,5] [] 20 671 [.obj 1,.obj 2,.str true s,.bool an] ⟨[R,F,B],[.l (.ret (.tup [.tup [.str true jT,.obj 5],.obj 4])) [R,F,B,.frame [],.list true lg,.list true rs]],[]⟩ (.tup [.tup [.str true jT,.obj 5],.obj 4]) [R,F,B,.list true lg,.list true rs] [sl gg 3 [R,F,B,O.frame (jY s an),O.list true []] (Fl.ret (V.tup [V.tup [V.str true jT,V.obj 5],V.obj 4])) [R,F,B,O.frame [],O.list true lg,O.list true rs]]:=by
 walk_at"k"
theorem JE(sp:jA)(sl:jz)(r:Nat)(R F B:O)(lg:List V)(s:Str)(an:Bool)(ns:List V)(j e:Int):TC sp sl r [0,1,2,5,6] [] 20 671 [.obj 1,.obj 2,.str true s,.bool an] ⟨[R,F,B],[.l (.ret (.tup [.tup [.str true lX,.int true j,.int true e,.obj 6],.obj 5])) [R,F,B,.frame [],.any,.list true lg,.list true ns]],[]⟩ (.tup [.tup [.str true lX,.int true j,.int true e,.obj 6],.obj 5]) [R,F,B,.list true lg,.list true ns] [sl gg 3 [R,F,B,O.frame (jY s an),O.list true []] (Fl.ret (V.tup [V.tup [V.str true lX,V.int true j,V.int true e,V.obj 6],V.obj 5])) [R,F,B,O.frame [],O.any,O.list true lg,O.list true ns]]:=by
 walk_at"k"
end
def K8(s:Str)(ps:List dZ)(a:Nat)(_:Bool)(ns:List Str)(lg:List LE)(x:fP×List LE):Prop:=x.2.length<=lg.length+ps.length/\∀e ms g,x.1= .ok e ms g->(a<=s.length->e<=s.length)/\ms.length<=ns.length+ps.length
theorem Gq{m:lY}{ns:List Str}{t:Str}:(JT m ns t).length<=ns.length+1:=by cases m with | later=>exact aY (ai ..) | _=>exact au _
theorem GU{m:lY}{lg:List LE}{t:Str}:(J0 m lg t).length<=lg.length+1:=by cases m with | now=>exact aY (ai ..) | _=>exact au _
theorem zm{a b c d:Nat}(h:a<=b+c)(k:b<=d+1):a<=d+(c+1):=ax (ax h (Nat.add_le_add_right k c)) (aY (bO _ _))
theorem rx(s:Str)(ps:List dZ)(a:Nat)(f:Bool)(ns:List Str)(lg:List LE):K8 s ps a f ns lg (d3 s ps a f ns lg):=by
 refine oX (P:=K8 s) (λI I I I=>⟨ao _,λI I I e=>?_⟩) (λI I I I I I h=>⟨zm h.1 (aY (ai ..)),λe ms g z=>⟨(h.2 e ms g z).1,aG (h.2 e ms g z).2⟩⟩) (λI I I I I I I I=>⟨aA _ _,λI I I e=>by injection e⟩)
  (λI I I I f I I I I=>⟨aA _ _,λI I I e=>by cases f<;>injection e⟩) (λI I I I I I I I I I k h=>⟨zm h.1 GU,λe ms g z=>⟨λha=>(h.2 e ms g z).1 (tu ha k),zm (h.2 e ms g z).2 Gq⟩⟩) ps a f ns lg
 injection e with e1 e2;exact⟨λh=>e1▸h,aY (e2▸rfl)⟩
theorem wB(s:Str)(ps:List dZ)(a:Nat)(f:Bool)(ns:List Str)(lg:List LE):(d3 s ps a f ns lg).2.length<=lg.length+ps.length:=(rx s ps a f ns lg).1
theorem lB(s:Str)(ps:List dZ)(a:Nat)(f:Bool)(ns:List Str)(lg:List LE){e:Nat}{ms:List Str}{g:Bool}{G':List LE}(h:d3 s ps a f ns lg=(.ok e ms g,G'))(ha:a<=s.length):e<=s.length/\ms.length<=ns.length+ps.length:=
 have q:=(rx s ps a f ns lg).2 e ms g (az Prod.fst h)
 ⟨q.1 ha,q.2⟩
def Kt(n:Nat):fP->V
 | .over=>.str false mP
 | .no=>.none
 | .ok a _ f=>.tup [.int true (a:Int),.obj n,.bool f]
theorem Ik{b:Bs}{R:O}{s:Str}(G:dI b)(hR:∀f,RO f R R)(hs:s.length<1000){ps:List dZ}{x:fP×List LE}(hp:ps.length<1000){a:Nat}{lg:List LE}(ha:a<=s.length)(hl:lg.length<1000)(hx:d3 s ps a false [] lg=x)(os:List O)(p q:Nat)
  (e:[0,p,q].map (nth os ·)=[R,.list true (ps.map (db 0)),.list true (lg.map d4)].map some) (nd:[0,p,q].Nodup) (i1:fb [0,p,q] p=some 1) (i2:fb [0,p,q] q=some 2):
  Ct b 70 664 [.obj p,.str true s,.int true (a:Int),.obj q] os (Kt os.length x.1) (fB os [0,p,q] [R,.list true (ps.map (db 0)),.list true (x.2.map d4)]++DM x.1):=by
 have T:=J7 (x:=x) G hR hs hp ha hl hx;have fr:=fJ.frame (l:=[0,p,q]) (os:=os) (I':=[R,.list true (ps.map (db 0)),.list true (lg.map d4)]) (news:=[R,.list true (ps.map (db 0)),.list true (x.2.map d4)]++DM x.1) (vs:=[.obj p,.str true s,.int true (a:Int),.obj q]) (w:=Kt os.length x.1) rfl T e nd
  (.k (hR _) (.k (.l (.parts (by rfl) _)) (.k (.l (.les _)) .z))) (.k (.o i1) (.k .s (.k .i (.k (.o i2) .z)))) ?_ ?_
 .exact fr
 .refine .k (hR _) (.k (.l (.parts (by rfl) _)) (.k (.l (.les _)) ?_))
  cases x.1 with
  |over=>exact .z
  |no=>exact .z
  |ok e ns f=>exact .k (.l (.nms _)) .z
 .cases x.1 with
  |over=>exact .s
  |no=>exact .n
  |ok e ns f=>exact .t (.k .i (.k (.o (by unfold back;simp [nth])) (.k .b .z)))
def HT(R F B:O)(s:Str)(an:Bool)(x:ii×List LE)(fl:Fl)(σ:List O):Prop:=match x with
 |(.none 0,lg)=>fl= .next/\σ=[R,F,B,.frame (jY s an),.list true (lg.map d4)]
 |(.none 1,lg)=>fl= .ret (.tup [.tup [.str true jo],.obj 4])/\σ=[R,F,B,.frame [],.list true (lg.map d4)]
 |(.none (_+2),lg)=>fl= .ret (.tup [.tup [.str true jo],.obj 5])/\σ=[R,F,B,.frame [],.any,.list true (lg.map d4)]
 |(.round rs,lg)=>fl= .ret (.tup [.tup [.str true jT,.obj 5],.obj 4])/\σ=[R,F,B,.frame [],.list true (lg.map d4),.list true (rs.map d4)]
 |(.met j e ns,lg)=>fl= .ret (.tup [.tup [.str true lX,.int true (j:Int),.int true (e:Int),.obj 6],.obj 5])/\σ=[R,F,B,.frame [],.any,.list true (lg.map d4),.list true (ns.map nJ)]
def KU(R F B:O)(s:Str)(fp bp:List dZ)(an:Bool)(x:ii×List LE)(n:Nat)(j:Nat)(σ:List O):Prop:=
 ∃lg:List LE,σ=[R,F,B,.frame (jY s an),.list true (lg.map d4)]/\mc s fp bp (n - j) j lg=x/\lg.length<=8*j
theorem kU(s:Str)(front behind:List dZ)(n b:Nat)(lg:List LE):mc s front behind (n+1) b lg=match d3 s front b false [] lg with
  |(.over,lg)=>(.none 1,lg)
  |(.no,lg)=>mc s front behind n (b+1) lg
  |(.ok a ns _,lg)=>match d3 s behind a false [] [] with
   |(.no,rs)=>(.round rs,lg)
   |(.over,rs)=>(.none 2,lg++rs)
   |(.ok e ms _,rs)=>(.met b e (ns++ms),lg++rs):=rfl
nonrec theorem Dr{b:Bs}{R:O}{s:Str}{fp bp:List dZ}{an:Bool}{x:ii×List LE}{EI:eZ}{n j:Nat}{lg:List LE}(G:dI b)(hR:∀f,RO f R R)(hs:s.length<=8)(hf:fp.length<=8)(hb:bp.length<=8)(hj:j<n)(hn:n<=s.length+1)(h1:mc s fp bp (n - j) j lg=x)(hl:lg.length<=8*j):iC (C b) 70 (fe [664]) (fe []) EI False 30 5 (d0 gg) 3 [R,.list true (fp.map (db 0)),.list true (bp.map (db 0)),.frame (fM s an (j:Int)),.list true (lg.map d4)] (HT R (.list true (fp.map (db 0))) (.list true (bp.map (db 0))) s an x) (λI=>False)
   (KU R (.list true (fp.map (db 0))) (.list true (bp.map (db 0))) s fp bp an x n (j+1)):=by
 have hs1:s.length<1000:=by omega
 have hf1:fp.length<1000:=by omega
 have hb1:bp.length<1000:=by omega
 have hj1:j<=s.length:=by omega
 have big:=dv;rw[show n - j=(n - (j+1))+1 from by omega,kU] at h1;have hlen:=wB s fp j false [] lg;have hok:=λe ms g G'=>lB s fp j false [] lg (e:=e) (ms:=ms) (g:=g) (G':=G');generalize hx1:d3 s fp j false [] lg=x1 at h1 hlen hok;have q1:=Ik G hR hs1 hf1 hj1 (by omega) hx1 [R,.list true (fp.map (db 0)),.list true (bp.map (db 0)),.frame (fM s an (j:Int)),.list true (lg.map d4)] 1 4 rfl () rfl rfl;have FB:∀{ks:List Nat},fb ks 0=some 0->RO (fb ks) (.list true (fp.map (db 0))) (.list true (fp.map (db 0))):=λe=>.l (.parts e _);have BB:∀{ks:List Nat},fb ks 0=some 0->RO (fb ks) (.list true (bp.map (db 0))) (.list true (bp.map (db 0))):=λe=>.l (.parts e _);obtain⟨r1,L'⟩:=x1;cases r1 with
 |over=>
  have h1:(ii.none 1,L')=x:=h1;rw[<-h1];exact fT [0,1,2,3,4] (yx ..) ⟨q1,N4⟩ (.k (hR _) (.k (FB rfl) (.k (BB rfl) (.k (.f .z) (.k (.l (.les _)) .z))))) (.t (.k (.t (.k .s .z)) (.k (.o rfl) .z))) ⟨rfl,rfl⟩
 |no=>
  have h1:mc s fp bp (n - (j+1)) (j+1) L'=x:=h1;refine eQ [0,1,2,3,4] (DI ..) ⟨q1,N4⟩ (.k (hR _) (.k (FB rfl) (.k (BB rfl) (.k (.f ?_) (.k (.l (.les _)) .z))))) ⟨L',rfl,h1,by dsimp only at hlen;omega⟩;unfold jY
  walk_at "ro"
 |ok a ns f=>
  obtain⟨ha,hns⟩:=hok a ns f L' rfl hj1;dsimp only at h1 hlen;have hlen2:=wB s bp a false [] [];have hok2:=λe ms g G'=>lB s bp a false [] [] (e:=e) (ms:=ms) (g:=g) (G':=G');generalize hx2:d3 s bp a false [] []=x2 at h1 hlen2 hok2;have q2:=Ik G hR hs1 hb1 ha () hx2 [R,.list true (fp.map (db 0)),.list true (bp.map (db 0)),.frame (kr s an (j:Int) (a:Int) f),.list true (L'.map d4),.list true (ns.map nJ),.list true []] 2 6 rfl () rfl rfl;obtain⟨r2,rs⟩:=x2;cases r2 with
  |no=>
   have h1:(ii.round rs,L')=x:=h1;rw[<-h1];exact fT [0,1,2,3,4,6] (wA ..) ⟨q2,q1,N4⟩ (.k (hR _) (.k (FB rfl) (.k (BB rfl) (.k (.f .z) (.k (.l (.les _)) (.k (.l (.les _)) .z))))))
    (.t (.k (.t (.k .s (.k (.o rfl) .z))) (.k (.o rfl) .z))) ⟨rfl,rfl⟩
  |over=>
   have h1:(ii.none 2,L'++rs)=x:=h1;rw[<-h1];refine fT [0,1,2,3,4,7] (wZ ..) ⟨?_,q2,q1,N4⟩ (.k (hR _) (.k (FB rfl) (.k (BB rfl) (.k (.f .z) (.k .lstAny (.k (.l (ys:=(L'++rs).map d4) ?_) .z))))))
    (.t (.k (.t (.k .s .z)) (.k (.o rfl) .z))) ⟨rfl,rfl⟩
   .simp only[af]
    simp only[bI] at hlen2;omega
   .rw[bn];exact(RVs.les _).app' (.les _)
  |ok e ms g=>
   have h1:(ii.met j e (ns++ms),L'++rs)=x:=h1;have hms:=(hok2 e ms g rs rfl ha).2;rw[<-h1];refine fT [0,1,2,3,4,9,8] (BC ..) ⟨?_,?_,q2,q1,N4⟩
    (.k (hR _) (.k (FB rfl) (.k (BB rfl) (.k (.f .z) (.k .lstAny (.k (.l (ys:=(L'++rs).map d4) ?_) (.k (.l (ys:=(ns++ms).map nJ) ?_) .z)))))))
    (.t (.k (.t (.k .s (.k .i (.k .i (.k (.o rfl) .z))))) (.k (.o rfl) .z))) ⟨rfl,rfl⟩
   .simp only[af]
    simp only[bI] at hlen2;omega
   .simp only[af]
    simp only[bI] at hms hns;omega
   .rw[bn];exact(RVs.les _).app' (.les _)
   .rw[bn];exact(RVs.nms _).app' (.nms _)
nonrec theorem CU{b:Bs}{R:O}{s:Str}{fp bp:List dZ}{x:ii×List LE}{EI:eZ}{{an:Bool}}(G:dI b)(hR:∀f,RO f R R)(hs:s.length<=8)(hf:fp.length<=8)(hb:bp.length<=8)(hx:wq s fp bp an=x):
  dL ((C b).at (30+70)) EI False gg 3 [R,.list true (fp.map (db 0)),.list true (bp.map (db 0)),.frame (jY s an),.list true []] (HT R (.list true (fp.map (db 0))) (.list true (bp.map (db 0))) s an x) (λI=>False):=by
 have K:=dD G (l:=[664]) ();have hi:uB ((C b).at (30+70)) (.call (.glb gL) [(.ite (.loc cT) (.cst (.int 1)) (.bin .Add (.call (.glb fU) [(.loc cS)]) (.cst (.int 1))))]) 3 [R,.list true (fp.map (db 0)),.list true (bp.map (db 0)),.frame (jY s an),.list true []] (.rng (dK s an)) [R,.list true (fp.map (db 0)),.list true (bp.map (db 0)),.frame (jY s an),.list true []]:=by
  cases an with
  |true=>exact iz (c:=C b) (st:=⟨[R,.list true (fp.map (db 0)),.list true (bp.map (db 0)),.frame (jY s true),.list true []],[],[]⟩) (ch:=[]) (y:=false) (m:=1) G.X G.F K rfl (by rfl) (λI m=>by cases m) ()
  |false=>exact iz (c:=C b) (st:=⟨[R,.list true (fp.map (db 0)),.list true (bp.map (db 0)),.frame (jY s false),.list true []],[],[s.length<2^20]⟩) (ch:=[]) (y:=true) (m:=s.length+1) G.X G.F K rfl (by rfl) (λI m=>by cases m with | head=>show s.length<2^20;omega | tail _ m=>cases m) (by omega)
 have hn:dK s an<=s.length+1:=by unfold dK;split<;>omega
 show dL _ _ _ (.for dB (.call (.glb gL) [(.ite (.loc cT) (.cst (.int 1)) (.bin .Add (.call (.glb fU) [(.loc cS)]) (.cst (.int 1))))]) (d0 gg)) _ _ _ _;refine rL (c:=C b) (k:=5) (N2:=.rng (dK s an)) G.X G.F K (dD G (l:=[]) ()) (orc':=fe []) (ao _) hi (by intro z;injection z)
  (KU R (.list true (fp.map (db 0))) (.list true (bp.map (db 0))) s fp bp an x (dK s an)) ⟨[],rfl,hx,by decide⟩ (λi xs z=>by injection z) (λj σ hI=>by show dK s an<2^60;omega) (λj σ v hI hv=>?_) (λσ hI=>?_)
 .obtain⟨lg,rfl,h1,h2⟩:=hI
  have hv:(if j<dK s an then some (V.int true (j:Nat)) else none)=some v:=hv
  by_cases z:j<dK s an
  .rw[if_pos z] at hv
   cases hv;exact⟨⟨[R,.list true (fp.map (db 0)),.list true (bp.map (db 0)),.frame (fM s an (j:Int)),.list true (lg.map d4)],[],[]⟩,rfl,Dr G hR hs hf hb z hn h1 h2⟩
  .rw[if_neg z] at hv;injection hv
 .obtain⟨lg,rfl,h1,h2⟩:=hI
  have h1:mc s fp bp (dK s an - dK s an) (dK s an) lg=x:=h1;rw[Nat.sub_self] at h1;have h1:(ii.none 0,lg)=x:=h1;refine⟨some,dg.id ?_⟩;rw[<-h1];exact⟨rfl,rfl⟩
def Jg(n:Nat):ii->V
 | .none _=>.tup [.tup [.str true jo],.obj n]
 | .round _=>.tup [.tup [.str true jT,.obj (n+1)],.obj n]
 | .met j e _=>.tup [.tup [.str true lX,.int true (j:Int),.int true (e:Int),.obj (n+1)],.obj n]
def wF:ii->List O
 | .none _=>[]
 | .round rs=>[.list true (rs.map d4)]
 | .met _ _ ns=>[.list true (ns.map nJ)]
nonrec theorem Ls{b:Bs}{R:O}{s:Str}{fp bp:List dZ}{an:Bool}{{x:ii×List LE}}(G:dI b)(hR:∀f,RO f R R)(hs:s.length<=8)(hf:fp.length<=8)(hb:bp.length<=8)(hx:wq s fp bp an=x):
  Ct b 120 671 [.obj 1,.obj 2,.str true s,.bool an] [R,.list true (fp.map (db 0)),.list true (bp.map (db 0))] (Jg 3 x.1) ([R,.list true (fp.map (db 0)),.list true (bp.map (db 0)),.list true (x.2.map d4)]++wF x.1):=by
 have L:=CU (EI:=λI I I=>True) G hR hs hf hb hx;have FB:∀{ks:List Nat},fb ks 0=some 0->RO (fb ks) (.list true (fp.map (db 0))) (.list true (fp.map (db 0))):=λe=>.l (.parts e _);have BB:∀{ks:List Nat},fb ks 0=some 0->RO (fb ks) (.list true (bp.map (db 0))) (.list true (bp.map (db 0))):=λe=>.l (.parts e _);obtain⟨rr,lg⟩:=x;cases rr with
 |none w=>
  match w,L with
  |0,L=>exact dF G (r:=100) (n:=20) (l₀:=[]) [0,1,2,4] (Ju ..) ⟨dL.normal L,N4⟩ (.k (hR _) (.k (FB rfl) (.k (BB rfl) (.k (.l (.les _)) .z)))) (.t (.k (.t (.k .s .z)) (.k (.o rfl) .z)))
  |1,L=>exact dF G (r:=100) (n:=20) (l₀:=[]) [0,1,2,4] (Iv ..) ⟨dL.normal L,N4⟩ (.k (hR _) (.k (FB rfl) (.k (BB rfl) (.k (.l (.les _)) .z)))) (.t (.k (.t (.k .s .z)) (.k (.o rfl) .z)))
  |w+2,L=>exact dF G (r:=100) (n:=20) (l₀:=[]) [0,1,2,5] (IK ..) ⟨dL.normal L,N4⟩ (.k (hR _) (.k (FB rfl) (.k (BB rfl) (.k (.l (.les _)) .z)))) (.t (.k (.t (.k .s .z)) (.k (.o rfl) .z)))
 |round rs=>exact dF G (r:=100) (n:=20) (l₀:=[]) [0,1,2,4,5] (JJ ..) ⟨dL.normal L,N4⟩ (.k (hR _) (.k (FB rfl) (.k (BB rfl) (.k (.l (.les _)) (.k (.l (.les _)) .z))))) (.t (.k (.t (.k .s (.k (.o rfl) .z))) (.k (.o rfl) .z)))
 |met j e ns=>exact dF G (r:=100) (n:=20) (l₀:=[]) [0,1,2,5,6] (JE ..) ⟨dL.normal L,N4⟩ (.k (hR _) (.k (FB rfl) (.k (BB rfl) (.k (.l (.les _)) (.k (.l (.nms _)) .z))))) (.t (.k (.t (.k .s (.k .i (.k .i (.k (.o rfl) .z))))) (.k (.o rfl) .z)))
end
theorem ji(s:Str){a e:Nat}(h:a<=e)(ha:a<=s.length):(cut s a e).cps.toList=(s.cps.toList.drop a).take (e - a):=by
 by_cases c:e<=s.length
 .show(StrLaws.sliceText s (some (a:Int)) (some (e:Int))).cps.toList=_
  rw[StrLaws.sliceText_nat s h c]
 .have q:Txt.slice s (some (a:Int)) (some (e:Int))=Txt.slice s (some (a:Int)) (some (s.length:Int)):=by
   unfold Txt.slice;have:Builtin.Str.strSliceIndices (some (a:Int)) (some (e:Int)) 1 s.length=Builtin.Str.strSliceIndices (some (a:Int)) (some (s.length:Int)) 1 s.length:=by
    have h1:¬((e:Int)<0):=by omega
    have h2:¬((s.length:Int)<0):=by omega
    have h3:min (e:Int) (s.length:Int)=(s.length:Int):=by omega
    have h4:min (s.length:Int) (s.length:Int)=(s.length:Int):=by omega
    have h5:(1:Int) > 0:=by decide
    simp only[Builtin.Str.strSliceIndices,h1,h2,h3,h4,h5,if_false,if_true]
   rw[this]
  unfold cut;rw[q];show(StrLaws.sliceText s (some (a:Int)) (some (s.length:Int))).cps.toList=_;rw[StrLaws.sliceText_nat s ha (ao _)];show(s.cps.toList.drop a).take (s.length - a)=_;have hl:(s.cps.toList.drop a).length=s.length - a:=by rw[List.length_drop];rfl
  rw[List.take_of_length_le (by omega),List.take_of_length_le (by omega)]
theorem rA(s:Str){a e:Nat}(h:a<=e)(ha:a<=s.length):(cut s a e).length=min (e - a) (s.length - a):=by
 show(cut s a e).cps.size=_;rw[<-Array.length_toList,ji s h ha,cc,List.length_drop];rfl
section
set_option backward.match.sparseCases false
/-! the machine of orders,in plain Lean -/
def mq:Str:=S [111,110,101]
def H4:Str:=S [109,97,114,107]
def Ib:Str:=S [110,97,109,101]
def Jk:Str:=S [115,101,116]
def zD:Str:=S [112,108,97,99,101]
def gC:Str:=S [100,111,110,101]
def tD:Str:=S [118,97,114]
inductive HZ where
 |txt (s:Str)
 |len (n:Nat)
 |any
inductive fz where
 |one (o:HZ)
 |fence | abort | fail | succeed | mark | name | set | place | done
def eB(s:Str)(a:Nat):HZ->Option Nat
 | .txt t=>if cut s a (a+t.length)=t then some (a+t.length) else none
 | .len n=>if a+n<=s.length then some (a+n) else none
 | .any=>if a<s.length then(match Txt.contains lW (gH s a) with | true=>some (a+1) | false=>none) else none
def eJ:fz->Str
 | .one _=>mq
 | .fence=>iq
 | .abort=>eV
 | .fail=>l8
 | .succeed=>gz
 | .mark=>H4
 | .name=>Ib
 | .set=>Jk
 | .place=>zD
 | .done=>gC
def J5:HZ->List V
 | .txt t=>[.str false dM,.str true t]
 | .len n=>[.str false jp,.int true (n:Int)]
 | .any=>[.str false kP,.str true lW]
def ordTl(r:Nat):fz->List V
 | .one o=>J5 o
 | .name=>[.obj r]
 | .set=>[.obj r]
 | .place=>[.obj r]
 |_=>[]
def ordV(r:Nat)(o:fz):V:=.tup (.str true (eJ o)::ordTl r o)
def ordW(r:Nat)(o:fz):V:=.tup (.str false (eJ o)::ordTl r o)
structure Wy where
 pc:Nat
 at_:Nat
 nm:List Str
 ms:List Nat
inductive Ht where
 |fen
 |suc (w:Wy)
inductive Hs where
 |emp
 |opq
 |top (t:Ht)
def ka(s:Str)(o:fz)(w:Wy)(h:Hs)(lg:List LE):Option (Bool×Wy×Hs×List LE):=match o with
 | .one o=>match eB s w.at_ o with
  |some e=>some (true,⟨w.pc+1,e,w.nm,w.ms⟩,h,lg)
  |none=>some (false,w,h,lg)
 | .fail=>some (false,w,h,lg)
 | .fence=>some (true,⟨w.pc+1,w.at_,w.nm,w.ms⟩,.top .fen,lg)
 | .succeed=>some (true,⟨w.pc+1,w.at_,w.nm,w.ms⟩,.top (.suc w),lg)
 | .mark=>some (true,⟨w.pc+1,w.at_,w.nm,w.at_::w.ms⟩,h,lg)
 | .name=>match w.ms with
  |m::mk=>some (true,⟨w.pc+1,w.at_,cut s m w.at_::w.nm,mk⟩,h,lg)
  |[]=>none
 | .set=>match w.ms with
  |m::mk=>some (true,⟨w.pc+1,w.at_,w.nm,mk⟩,h,lg++[.tx (cut s m w.at_)])
  |[]=>none
 | .place=>some (true,⟨w.pc+1,w.at_,w.nm,w.ms⟩,h,lg++[.at w.at_])
 |_=>none
inductive iF where
 |met (w:Wy)
 |over (w:Wy)
 |failed (w:Wy)
 |raised (w:Wy)
def first(p:Option Wy)(w:Wy):Wy:=match p with
 |none=>w
 |some v=>v
def fR(s:Str)(os:List fz)(lim:Nat):Nat->Option Wy->Wy->Hs->List LE->Nat->Option (iF×List LE×Nat)
 |0,_,_,_,_,_=>none
 |n+1,p,w,h,lg,st=>if lim<st+1 then some (.raised (first p w),lg,st+1) else
  match nth os w.pc with
  |none=>none
  |some .done=>match p with | none=>some (.met w,lg,st+1) | some _=>none
  |some .abort=>match p with | none=>some (.over w,lg,st+1) | some _=>none
  |some o=>match ka s o w h lg with
   |none=>none
   |some (true,w,h,lg)=>fR s os lim n p w h lg (st+1)
   |some (false,w',h,lg)=>match h with
    | .emp=>match p with | none=>some (.failed w',lg,st+1) | some _=>none
    | .opq=>none
    | .top .fen=>match p with | none=>some (.over w',lg,st+1) | some _=>none
    | .top (.suc w2)=>fR s os lim n (some (first p w')) w2 .opq lg (st+1)
/-! how it lies in the cells -/
def nmR(r:Nat):List Str->V
 |[]=>.none
 |s::l=>.tup [nmR r l,.tup [.obj r,.str true s]]
def trR:List Nat->V
 |[]=>.none
 |m::l=>.tup [trR l,.int true (m:Int)]
abbrev iU(or pc at_ nm mk:V):O:=.inst 436 [(dY,or),(om,pc),(dW,at_),(dq,nm),(iH,mk),(mZ,.none)]
def fF(r o:Nat)(w:Wy):O:=iU (.obj o) (.int true (w.pc:Int)) (.int true (w.at_:Int)) (nmR r w.nm) (trR w.ms)
def Bn:O:=iU .none (.int true 0) (.int true 0) .none .none
def Bv(r o:Nat):Ht->O
 | .fen=>Bn
 | .suc w=>fF r o w
abbrev cX(lim st:Int):O:=.inst 576 [(gu,.obj 2),(dJ,.int true lim),(fS,.obj 3),(gK,.int true st),(eP,.obj 4)]
def dG(lim st:Nat):O:=cX (lim:Int) (st:Int)
def cY:O:=.inst 196 [(du,.str true tD),(g9,.none),(iS,.str false sK)]
abbrev Ba(s:Str):O:=.inst 513 [(cS,.str true s),(dt,.obj 1),(hG,.obj 6)]
def valO:List LE->O
 |[]=>.dict []
 |_::_=>.dict [sK]
def dz(lg:List LE):O:=.list true (lg.map d4)
def nZ(os:List fz):O:=.list true (os.map (ordV 0))
theorem RV.nmR{f:Nat->Option Nat}{r r':Nat}(h:f r=some r'):∀l:List Str,RV f (nmR r l) (nmR r' l)
 |[]=>.n
 |_::l=>.t (.k (RV.nmR h l) (.k (.t (.k (.o h) (.k .s .z))) .z))
theorem RV.trR{f:Nat->Option Nat}:∀l:List Nat,RV f (trR l) (trR l)
 |[]=>.n
 |_::l=>.t (.k (RV.trR l) (.k .i .z))
section
variable{f:Nat->Option Nat} {r r':Nat}
theorem RO.way{o o':Nat}(h:f r=some r')(k:f o=some o')(w:Wy):RO f (fF r o w) (fF r' o' w):=
 .x (.k (.o k) (.k .i (.k .i (.k (.nmR h _) (.k (.trR _) (.k .n .z))))))
theorem RO.fen:RO f Bn Bn:=.x (.k .n (.k .i (.k .i (.k .n (.k .n (.k .n .z))))))
theorem RO.top{o o':Nat}(h:f r=some r')(k:f o=some o')(t:Ht):RO f (Bv r o t) (Bv r' o' t):=by
 cases t with
 |fen=>exact .fen
 |suc w=>exact .way h k w
theorem RO.host{lim st:Nat}(h2:f 2=some 2)(h3:f 3=some 3)(h4:f 4=some 4):RO f (dG lim st) (dG lim st):=
 .x (.k (.o h2) (.k .i (.k (.o h3) (.k .i (.k (.o h4) .z)))))
theorem RO.ref:RO f cY cY:=.x (.k .s (.k .n (.k .s .z)))
theorem RO.mat{s:Str}(h1:f 1=some 1)(h6:f 6=some 6):RO f (Ba s) (Ba s):=.x (.k .s (.k (.o h1) (.k (.o h6) .z)))
theorem RO.valO(lg:List LE):RO f (valO lg) (valO lg):=by cases lg<;>exact .d
theorem RO.log(lg:List LE):RO f (dz lg) (dz lg):=.l (.les _)
theorem RV.ord(h:f r=some r')(o:fz):RV f (ordV r o) (ordV r' o):=by
 refine .t (.k .s ?_);cases o with
 |one o=>cases o<;>exact .k .s (.k (by first | exact .s | exact .i) .z)
 |_=>first | exact .z | exact .k (.o h) .z
theorem RVs.ordTl(h:f r=some r')(o:fz):RVs f (ordTl r o) (ordTl r' o):=by
 cases o with
 |one o=>cases o<;>exact .k .s (.k (by first | exact .s | exact .i) .z)
 |_=>first | exact .z | exact .k (.o h) .z
theorem RV.ordW(h:f r=some r')(o:fz):RV f (ordV r o) (ordW r' o):=.t (.k .s (.ordTl h o))
theorem RO.ord(h:f 0=some 0)(os:List fz):RO f (nZ os) (nZ os):=.l (.map' os λo I=>.ord h o)
def cells(lim st:Nat)(lg:List LE)(s:Str)(hi:O)(os:List fz):List O:=[cY,dG lim st,valO lg,.list true [],dz lg,Ba s,hi,nZ os]
def iO:fz->Bool
 | .fence=>true
 | .succeed=>true
 |_=>false
def mK(w:Wy):fz->Ht
 | .succeed=>.suc w
 |_=>.fen
end
end
abbrev qi(q:Fl×St):Fl×List O×List Prop:=(q.1,q.2.os,q.2.cs)
abbrev qa(q:V×St):V×List O×List Prop:=(q.1,q.2.os,q.2.cs)
abbrev zQ(q:St):List O×List Prop:=(q.os,q.cs)
section
variable{c:Cx} {k fi:Nat} {σ I':List O} {J XP:List O->Prop} {orc orc':Nat->Bool} {EI:eZ} {rz:Prop} {bd:List MS} {ch:List Ch} {cs:List Prop} {NP:Fl->List O->Prop}
theorem dg.absorb{i:Nat}{v1 v2:V}{u':List Value}{g:Nat->Option Nat}(hi:nth σ i=some (.stk [v1,v2] u'))
  (T:∀x,dg c k g (setN σ i (.stk [v1] (u'++[x]))) J):dg c k g σ J:=λρ h R=>by
 obtain⟨a,ha,z',n,e1,e2⟩:=R.cell hi;obtain⟨x2,l,rfl,r2,x1,l1,rfl,r1,rfl⟩:∃x xs,z'=x::xs/\dH ρ h v2 x/\∃y ys,xs=y::ys/\dH ρ h v1 y/\ys=[]:=e2;have R':c.R ρ (setN σ i (.stk [v1] (u'++[x2]))) h:=kB.set R ha hi rfl (λb x e I=>e) ⟨[x1],n,by rw[aw];exact e1,x1,[],rfl,r1,rfl⟩;have ft:∀x∈dA ρ (setN σ i (.stk [v1] (u'++[x2]))),x∈dA ρ σ:=λx m=>by
  obtain⟨j,b,q,f1,f2,m⟩:=dC.mp m;rcases pH f2 with⟨rfl,rfl⟩ | ⟨_,e⟩
  .exact dC.mpr ⟨_,b,_,f1,hi,m⟩
  .exact dC.mpr ⟨j,b,q,f1,e,m⟩
 have fr:∀j m,nth σ j=some (.frame m)->nth (setN σ i (.stk [v1] (u'++[x2]))) j=some (.frame m):=λj m e=>by
  rw[j6 _ _ (λz=>by subst z;rw[hi] at e;cases e)];exact e
 obtain⟨ρ',σ',a1,a2,a3,a4,a5,a6,a7⟩:=T x2 ρ h R';exact⟨ρ',σ',a1,a2,λx m=>ft x (a3 x m),a4,a5,λj m l e=>a6 j m l (fr j m e),λx m j q e1 e2=>a7 x m j q e1 (fr j q e2)⟩
theorem ph{r n:Nat}{fl:Fl}(h:Option.map qi ((ev (Bx c r orc).P n).ss bd fi ⟨σ,ch,[]⟩)=some (fl,I',cs))(hc:jx cs)(T:∃g,dg c k g I' J)
  (hfl:fl= .next\/fl= .cont:=by walk_at "f"):iC c r orc orc' EI rz n k bd fi σ NP XP J:=by
 obtain⟨⟨f,st⟩,e1,e2⟩:=aq.mp h;obtain⟨rfl,rfl,rfl⟩:f=fl/\st.os=I'/\st.cs=cs:=by simpa only[bc] using e2
 refine .inl ⟨ch,f,st,e1,gj hc,?_⟩;rcases hfl with rfl | rfl<;>exact T
theorem uL{r n:Nat}{v w:V}{g:Nat->Option Nat}(h:Option.map qi ((ev (Bx c r orc).P n).ss bd fi ⟨σ,ch,[]⟩)=some (.ret v,I',cs))(hc:jx cs)(rv:RV g v w)(T:dg c k g I' (NP (.ret w))):
  iC c r orc orc' EI rz n k bd fi σ NP XP J:=by
 obtain⟨⟨f,st⟩,e1,e2⟩:=aq.mp h;obtain⟨rfl,rfl,rfl⟩:f= .ret v/\st.os=I'/\st.cs=cs:=by simpa only[bc] using e2
 exact .inl ⟨ch,.ret v,st,e1,gj hc,g,w,rv,T⟩
theorem BP{r n:Nat}(hz:rz)(h:Option.map zQ ((tP (Bx c r orc).P (Hh c r EI orc') n).ss bd fi ⟨σ,ch,[]⟩)=some (I',cs))(hc:jx cs)(T:∃g,dg c k g I' XP):
  iC c r orc orc' EI rz n k bd fi σ NP XP J:=by
 obtain⟨st,e1,e2⟩:=aq.mp h;obtain⟨rfl,rfl⟩:st.os=I'/\st.cs=cs:=by simpa only[bc] using e2
 exact .inr ⟨hz,ch,st,e1,gj hc,T⟩
theorem dL.entry{m:MS}{os H':List O}{g:Nat->Option Nat}(T:dg c os.length g os (·=H'))(L:dL c EI rz m fi H' NP XP):dL c EI rz m fi os NP XP:=
 λA env x s ρ l Q E rm en ck R ad pe fr q qx=>by
  obtain⟨ρ',σ',rfl,r,_⟩:=eR.tell (c:=c) (eR.refl R) T (ao _) R.len;exact L A env x s ρ' l Q E rm (en.grow r.grow) ck r.rel (eE.trans ad r.grow) pe (λz=>(fr z).res (c:=c) r) (λρ1 s1 fl N1 σ1 j r1 v1=>q ρ1 s1 fl N1 σ1 j (r.trans r1) v1) (λz ρ1 s1 a σ1 j x=>qx z ρ1 s1 a σ1 j (d9.after (c:=c) r x))
theorem dg.to{l:List Nat}{H':List O}(hJ:J H')(e:l.map (nth σ ·)=I'.map some)(R:ROs (fb l) I' H')(nd:l.Nodup:=by decide)(keep:kj l 0 k:=by rfl):dg c k (fb l) σ J:=
 (dg.sel e nd (fj keep) R).mono (ao _) λσ' e=>by subst e;exact hJ
end
def u5(lim st:Int)(D:O)(lg:List V)(s:Str)(top:List V)(u':List Value)(Or:O)(W:O):List O:=[cY,cX lim st,D,.list true [],.list true lg,Ba s,.stk top u',Or,W]
def nj(n:Nat):Hs->List V
 | .top _=>[.obj n]
 |_=>[]
def lT:Hs->List O
 | .top t=>[Bv 0 7 t]
 |_=>[]
def CP:Hs->List Nat
 | .top _=>[0,1,2,3,4,5,6,7,8,9]
 |_=>[0,1,2,3,4,5,6,7,8]
abbrev nH(h:Hs):Nat:=(lT h).length
theorem ROs.hs{f:Nat->Option Nat}(h0:f 0=some 0)(h7:f 7=some 7){h:Hs}{tl tl':List O}(k:ROs f tl tl'):ROs f (lT h++tl) (lT h++tl'):=by
 cases h with
 |top t=>exact .k (.top h0 h7 t) k
 |_=>exact k
theorem ROs.hs1{f:Nat->Option Nat}(h0:f 0=some 0)(h7:f 7=some 7){h:Hs}:ROs f (lT h) (lT h):=by
 cases h with
 |top t=>exact .k (.top h0 h7 t) .z
 |_=>exact .z
theorem RVs.hs{f:Nat->Option Nat}{n m:Nat}{h:Hs}(k:∀t,h= .top t->f n=some m):RVs f (nj n h) (nj m h):=by
 cases h with
 |top t=>exact .k (.o (k t rfl)) .z
 |_=>exact .z
theorem q8(t:List Nat):∀i,i<8->fb (0::1::2::3::4::5::6::7::t) i=some i:=λI h=>
 up8 (P:=λi=>fb (0::1::2::3::4::5::6::7::t) i=some i) h rfl rfl rfl rfl rfl rfl rfl rfl
theorem jS{l:List Nat}(h:decide l.Nodup):l.Nodup:=aS h
section
variable(sp:jA) (sl:jz) (r:Nat) (lim st:Int) (s:Str) (u':List Value) (Or:O) (h:Hs)
abbrev xR(D D':O)(lg G':List V)(pc a:Int)(nm mk:V)(pc' a':Int)(nm' mk' o:V)(ch:List Ch)(ok:Bool)(cs:List Prop):Prop:=
 Option.map (out (CP h)) (LD sp sl r [] 40 475 [.obj 5,o,.obj 8] ⟨u5 lim st D lg s (nj 9 h) u' Or (iU (.obj 7) (.int true pc) (.int true a) nm mk)++lT h,ch,[]⟩)=some (V.bool ok,.map some (u5 lim st D' G' s (nj 9 h) u' Or (iU (.obj 7) (.int true pc') (.int true a') nm' mk')++lT h),cs)
abbrev Mk(D:O)(lg:List V)(pc a:Int)(nm mk:V)(n:Nat)(o:V)(W:O):Prop:=
 Option.map (out (CP h++[n])) (LD sp sl r [] 40 475 [.obj 5,o,.obj 8] ⟨u5 lim st D lg s (nj 9 h) u' Or (iU (.obj 7) (.int true pc) (.int true a) nm mk)++lT h,[],[]⟩)=some (V.bool true,.map some (u5 lim st D lg s (.obj n::nj 9 h) u' Or (iU (.obj 7) (.int true (pc+1)) (.int true a) nm mk)++(lT h++[W])),[u'.length+(nj 9 h).length<2^20])
variable(D:O) (lg:List V) (pc a:Int) (nm mk:V)
theorem CM(t:Str):xR sp sl r lim st s u' Or h D D lg lg pc a nm mk (pc+1) (a+t.length) nm mk (.tup [.str false mq,.str false dM,.str true t]) [.b true] true [decide (Txt.slice s (some a) (some (a+t.length))=t)=true,s.length<=sizeLine,t.length<2^20]:=by cases h<;>walk_at"k"
theorem DT(t:Str):xR sp sl r lim st s u' Or h D D lg lg pc a nm mk pc a nm mk (.tup [.str false mq,.str false dM,.str true t]) [.b false] false [decide (Txt.slice s (some a) (some (a+t.length))=t)=false,s.length<=sizeLine,t.length<2^20]:=by cases h<;>walk_at"k"
theorem EW(n:Int):xR sp sl r lim st s u' Or h D D lg lg pc a nm mk (pc+1) (a+n) nm mk (.tup [.str false mq,.str false jp,.int true n]) [.b true] true [decide (a+n<=s.length)=true,s.length<2^20]:=by cases h<;>walk_at"k"
theorem C1(n:Int):xR sp sl r lim st s u' Or h D D lg lg pc a nm mk pc a nm mk (.tup [.str false mq,.str false jp,.int true n]) [.b false] false [decide (a+n<=s.length)=false,s.length<2^20]:=by cases h<;>walk_at"k"
theorem E2:xR sp sl r lim st s u' Or h D D lg lg pc a nm mk (pc+1) (a+1) nm mk (.tup [.str false mq,.str false kP,.str true lW]) [.b true,.b true] true [Txt.contains lW ⟨#[s.cps.getD a.toNat 0]⟩=true,0<=a/\a<s.length/\a<2^62,decide (a<s.length)=true,s.length<2^20]:=by cases h<;>walk_at"k"
theorem Ej:xR sp sl r lim st s u' Or h D D lg lg pc a nm mk pc a nm mk (.tup [.str false mq,.str false kP,.str true lW]) [.b true,.b false] false [Txt.contains lW ⟨#[s.cps.getD a.toNat 0]⟩=false,0<=a/\a<s.length/\a<2^62,decide (a<s.length)=true,s.length<2^20]:=by cases h<;>walk_at"k"
theorem Cj:xR sp sl r lim st s u' Or h D D lg lg pc a nm mk pc a nm mk (.tup [.str false mq,.str false kP,.str true lW]) [.b false] false [decide (a<s.length)=false,s.length<2^20]:=by cases h<;>walk_at"k"
theorem IP:xR sp sl r lim st s u' Or h D D lg lg pc a nm mk pc a nm mk (.tup [.str false l8]) [] false []:=by cases h<;>walk_at"k"
theorem I9:xR sp sl r lim st s u' Or h D D lg lg pc a nm mk (pc+1) a nm (.tup [mk,.int true a]) (.tup [.str false H4]) [] true []:=by cases h<;>walk_at"k"
theorem I2(m:Int):xR sp sl r lim st s u' Or h D D lg lg pc a nm (.tup [mk,.int true m]) (pc+1) a (.tup [nm,.tup [.obj 0,.str true (Txt.slice s (some m) (some a))]]) mk (.tup [.str false Ib,.obj 0]) [] true [s.length<=sizeLine]:=by cases h<;>walk_at"k"
theorem Io(m:Int):xR sp sl r lim st s u' Or h (.dict []) (.dict [sK]) lg (lg++[.tup [.str false sK,.str true (Txt.slice s (some m) (some a))]]) pc a nm (.tup [mk,.int true m]) (pc+1) a nm mk (.tup [.str false Jk,.obj 0]) [] true [lg.length<2^20,s.length<=sizeLine]:=by cases h<;>walk_at"k"
theorem IL(m:Int):xR sp sl r lim st s u' Or h (.dict [sK]) (.dict [sK]) lg (lg++[.tup [.str false sK,.str true (Txt.slice s (some m) (some a))]]) pc a nm (.tup [mk,.int true m]) (pc+1) a nm mk (.tup [.str false Jk,.obj 0]) [] true [lg.length<2^20,sK=sK,s.length<=sizeLine]:=by cases h<;>walk_at"k"
theorem CT:xR sp sl r lim st s u' Or h (.dict []) (.dict [sK]) lg (lg++[.tup [.str false sK,.int true a]]) pc a nm mk (pc+1) a nm mk (.tup [.str false zD,.obj 0]) [] true [lg.length<2^20]:=by cases h<;>walk_at"k"
theorem E5:xR sp sl r lim st s u' Or h (.dict [sK]) (.dict [sK]) lg (lg++[.tup [.str false sK,.int true a]]) pc a nm mk (pc+1) a nm mk (.tup [.str false zD,.obj 0]) [] true [lg.length<2^20,sK=sK]:=by cases h<;>walk_at"k"
theorem F7:Mk sp sl r lim st s u' Or h D lg pc a nm mk (11+nH h) (.tup [.str false iq]) (iU .none (.int false 0) (.int false 0) .none .none):=by cases h<;>walk_at"k"
theorem ID:Mk sp sl r lim st s u' Or h D lg pc a nm mk (12+nH h) (.tup [.str false gz]) (iU (.obj 7) (.int true pc) (.int true a) nm mk):=by cases h<;>walk_at"k"
end
nonrec theorem dn{b:Bs}{lim st:Nat}{s:Str}{os:List fz}{w w':Wy}{lg G':List LE}{u':List Value}{D':O}{L':List V}{nm' mk' o:V}{ch:List Ch}{ok:Bool}{cs:List Prop}(G:dI b){h:Hs}
  (e:xR (Ct b 0) (Lt b 0) 0 lim st s u' (nZ os) h (valO lg) D' (lg.map d4) L' w.pc w.at_ (nmR 0 w.nm) (trR w.ms) w'.pc w'.at_ nm' mk' o ch ok cs) (hc:jx cs) (hD:∀f,RO f D' (valO G')) (hL:∀f,RVs f L' (G'.map d4)) (hN:∀f:Nat->Option Nat,f 0=some 0->RV f nm' (nmR 0 w'.nm)) (hM:∀f,RV f mk' (trR w'.ms)):
  Ct b 40 475 [.obj 5,o,.obj 8] (cells lim st lg s (.stk (nj 9 h) u') os++(fF 0 7 w::lT h)) (.bool ok) (cells lim st G' s (.stk (nj 9 h) u') os++(fF 0 7 w'::lT h)):=by
 have z:∀i,i<8->fb (CP h) i=some i:=by cases h<;>exact q8 _
 have z9:∀t,h= .top t->fb (CP h) 9=some 9:=λt e=>by rw[e];rfl
 have hX:ROs (fb (CP h)) (lT h) (lT h):=.hs1 (z 0 ()) (z 7 ());exact dF G (r:=0) (n:=40) (l₀:=[]) (CP h) e hc (.k .ref (.k (.host (z 2 ()) (z 3 ()) (z 4 ())) (.k (hD _) (.k (.l .z) (.k (.l (hL _)) (.k (.mat (z 1 ()) (z 6 ())) (.k (.y (.hs z9)) (.k (.ord (z 0 ()) os) (.k (RO.x (.k (.o (z 7 ())) (.k .i (.k .i (.k (hN _ (z 0 ())) (.k (hM _) (.k .n .z))))))) hX))))))))) .b (nd:=jS (by cases h<;>rfl)) (keep:=by cases h<;>rfl)
theorem HH{b:Bs}{lim st:Nat}{s:Str}{os:List fz}{w:Wy}{pc' a':Nat}{lg:List LE}{u':List Value}{o:V}{ch:List Ch}{ok:Bool}{cs:List Prop}(G:dI b){h:Hs}
  (e:xR (Ct b 0) (Lt b 0) 0 lim st s u' (nZ os) h (valO lg) (valO lg) (lg.map d4) (lg.map d4) w.pc w.at_ (nmR 0 w.nm) (trR w.ms) pc' a' (nmR 0 w.nm) (trR w.ms) o ch ok cs) (hc:jx cs):
  Ct b 40 475 [.obj 5,o,.obj 8] (cells lim st lg s (.stk (nj 9 h) u') os++(fF 0 7 w::lT h)) (.bool ok) (cells lim st lg s (.stk (nj 9 h) u') os++(fF 0 7 ⟨pc',a',w.nm,w.ms⟩::lT h)):=
 dn (w':=⟨pc',a',w.nm,w.ms⟩) G e hc (λI=>.valO lg) (λI=>.les lg) (λI h=>.nmR h _) (λI=>.trR _)
theorem IB{b:Bs}{lim st:Nat}{s:Str}{os:List fz}{w:Wy}{lg:List LE}{u':List Value}(G:dI b)(hs:s.length<=8)(ha:w.at_<=s.length)(hl:lg.length<2^20)(ht:∀t,nth os w.pc=some (.one (.txt t))->t.length<2^20){o:fz}(ho:nth os w.pc=some o)(np:iO o=false){h h':Hs}{ok:Bool}{w':Wy}{G':List LE}(e:ka s o w h lg=some (ok,w',h',G')):
  Ct b 40 475 [.obj 5,ordW 0 o,.obj 8] (cells lim st lg s (.stk (nj 9 h) u') os++(fF 0 7 w::lT h)) (.bool ok) (cells lim st G' s (.stk (nj 9 h) u') os++(fF 0 7 w'::lT h)):=by
 have hb:=dv;have hs':s.length<=sizeLine:=by omega
 have hs2:s.length<2^20:=by omega
 have hl':(lg.map d4).length<2^20:=by rw[af];exact hl
 cases o with
 |one q=>
  have e:(match eB s w.at_ q with
   |some e=>some (true,⟨w.pc+1,e,w.nm,w.ms⟩,h,lg)
   |none=>some (false,w,h,lg))=some (ok,w',h',G'):=e
  cases q with
  |txt t=>
   have ht:=ht t ho;have e:(match(if cut s w.at_ (w.at_+t.length)=t then some (w.at_+t.length) else none) with
    |some e=>some (true,⟨w.pc+1,e,w.nm,w.ms⟩,h,lg)
    |none=>some (false,w,h,lg))=some (ok,w',h',G'):=e
   by_cases c:cut s w.at_ (w.at_+t.length)=t
   .rw[if_pos c] at e
    refine p6 e ?_;exact HH G (CM ..) ⟨av c,hs',ht,N4⟩
   .rw[if_neg c] at e
    refine p6 e ?_;exact HH G (DT ..) ⟨ag c,hs',ht,N4⟩
  |len n=>
   have e:(match(if w.at_+n<=s.length then some (w.at_+n) else none) with
    |some e=>some (true,⟨w.pc+1,e,w.nm,w.ms⟩,h,lg)
    |none=>some (false,w,h,lg))=some (ok,w',h',G'):=e
   by_cases c:w.at_+n<=s.length
   .rw[if_pos c] at e
    refine p6 e ?_;exact HH G (EW (n:=n) ..) ⟨av (Int.ofNat_le.mpr c),hs2,N4⟩
   .rw[if_neg c] at e
    refine p6 e ?_;exact HH G (C1 (n:=n) ..) ⟨ag λz=>c (Int.ofNat_le.mp z),hs2,N4⟩
  |any=>
   have e:(match(if w.at_<s.length then(match Txt.contains lW (gH s w.at_) with | true=>some (w.at_+1) | false=>none) else none) with
    |some e=>some (true,⟨w.pc+1,e,w.nm,w.ms⟩,h,lg)
    |none=>some (false,w,h,lg))=some (ok,w',h',G'):=e
   by_cases c:w.at_<s.length
   .rw[if_pos c] at e
    have k:(0:Int)<=w.at_/\(w.at_:Int)<s.length/\(w.at_:Int)<2^62:=⟨Int.natCast_nonneg _,bX.mpr c,by omega⟩
    cases c2:Txt.contains lW (gH s w.at_) with
    |true=>
     rw[c2] at e;refine p6 e ?_;exact HH G (E2 ..) ⟨c2,k,av k.2.1,hs2,N4⟩
    |false=>
     rw[c2] at e;refine p6 e ?_;exact HH G (Ej ..) ⟨c2,k,av k.2.1,hs2,N4⟩
   .rw[if_neg c] at e
    refine p6 e ?_;exact HH G (Cj ..) ⟨ag λz=>c (bX.mp z),hs2,N4⟩
 |fence=>cases np
 |succeed=>cases np
 |abort=>cases e
 |done=>cases e
 |fail=>
  refine p6 e ?_;exact HH G (IP ..) trivial
 |mark=>
  refine p6 e ?_;exact dn (w':=⟨w.pc+1,w.at_,w.nm,w.at_::w.ms⟩) G (I9 ..) trivial (λI=>.valO lg) (λI=>.les lg) (λI h=>.nmR h _) (λI=>.trR (w.at_::w.ms))
 |name=>
  obtain⟨pc,a,nm,ms⟩:=w;cases ms with
  |nil=>cases e
  |cons m ms=>
   refine p6 e ?_;exact dn (w:=⟨pc,a,nm,m::ms⟩) (w':=⟨pc+1,a,cut s m a::nm,ms⟩) G (I2 (m:=m) ..) ⟨hs',N4⟩ (λI=>.valO lg) (λI=>.les lg) (λI h=>.nmR h (cut s m a::nm)) (λI=>.trR ms)
 |set=>
  obtain⟨pc,a,nm,ms⟩:=w;cases ms with
  |nil=>cases e
  |cons m ms=>
   refine p6 e ?_;cases lg with
   |nil=>exact dn (w:=⟨pc,a,nm,m::ms⟩) (w':=⟨pc+1,a,nm,ms⟩) G (Io (m:=m) ..) ⟨hl',hs',N4⟩ (λI=>.d) (λI=>.les [.tx (cut s m a)]) (λI h=>.nmR h _) (λI=>.trR _)
   |cons q lg=>exact dn (w:=⟨pc,a,nm,m::ms⟩) (w':=⟨pc+1,a,nm,ms⟩) G (IL (m:=m) ..) ⟨hl',rfl,hs',N4⟩ (λI=>.d) (λI=>.snoc (l:=q::lg) (x:=LE.tx (cut s m a)) (.les _) (.le (LE.tx (cut s m a)))) (λI h=>.nmR h _) (λI=>.trR _)
 |place=>
  refine p6 e ?_;cases lg with
  |nil=>exact dn (w':=⟨w.pc+1,w.at_,w.nm,w.ms⟩) G (CT ..) ⟨hl',N4⟩ (λI=>.d) (λI=>.les [.at w.at_]) (λI h=>.nmR h _) (λI=>.trR _)
  |cons q lg=>exact dn (w':=⟨w.pc+1,w.at_,w.nm,w.ms⟩) G (E5 ..) ⟨hl',rfl,N4⟩ (λI=>.d) (λI=>.snoc (l:=q::lg) (x:=LE.at w.at_) (.les _) (.le (LE.at w.at_))) (λI h=>.nmR h _) (λI=>.trR _)
nonrec theorem Jm{b:Bs}{lim st:Nat}{s:Str}{os:List fz}{w:Wy}{lg:List LE}{u':List Value}(G:dI b){h:Hs}(hr:u'.length+(nj 9 h).length<2^20){o:fz}(np:iO o):
  Ct b 40 475 [.obj 5,ordW 0 o,.obj 8] (cells lim st lg s (.stk (nj 9 h) u') os++(fF 0 7 w::lT h)) (.bool true) (cells lim st lg s (.stk (.obj (9+nH h)::nj 9 h) u') os++(fF 0 7 ⟨w.pc+1,w.at_,w.nm,w.ms⟩::(lT h++[Bv 0 7 (mK w o)]))):=by
 have go:∀{n:Nat} {W X:O} {v:V},Mk (Ct b 0) (Lt b 0) 0 lim st s u' (nZ os) h (valO lg) (lg.map d4) w.pc w.at_ (nmR 0 w.nm) (trR w.ms) n v W->(CP h++[n]).Nodup->fb (CP h++[n]) n=some (9+nH h)->(∀f:Nat->Option Nat,f 0=some 0->f 7=some 7->RO f W X)->Ct b 40 475 [.obj 5,v,.obj 8] (cells lim st lg s (.stk (nj 9 h) u') os++(fF 0 7 w::lT h)) (.bool true) (cells lim st lg s (.stk (.obj (9+nH h)::nj 9 h) u') os++(fF 0 7 ⟨w.pc+1,w.at_,w.nm,w.ms⟩::(lT h++[X]))):=λ{n W X v} e nd hn hW=>by
  have z:∀i,i<8->fb (CP h++[n]) i=some i:=by cases h<;>exact q8 _
  have z9:∀t,h= .top t->fb (CP h++[n]) 9=some 9:=λt e=>by rw[e];rfl
  exact dF G (r:=0) (n:=40) (l₀:=[]) (CP h++[n]) e ⟨hr,N4⟩ (.k .ref (.k (.host (z 2 ()) (z 3 ()) (z 4 ())) (.k (.valO lg) (.k (.l .z) (.k (.log lg) (.k (.mat (z 1 ()) (z 6 ())) (.k (.y (.k (.o hn) (.hs z9))) (.k (.ord (z 0 ()) os) (.k (.way (z 0 ()) (z 7 ()) ⟨w.pc+1,w.at_,w.nm,w.ms⟩) (.hs (z 0 ()) (z 7 ()) (.k (hW _ (z 0 ()) (z 7 ())) .z))))))))))) .b (nd:=nd) (keep:=by cases h<;>rfl)
 cases o with
 |fence=>exact go (F7 ..) (jS (by cases h<;>rfl)) (by cases h<;>rfl) λI I I=>.fen
 |succeed=>exact go (ID ..) (jS (by cases h<;>rfl)) (by cases h<;>rfl) λI h0 h7=>.way h0 h7 w
 |_=>cases np
section
set_option tactic.hygienic true
set_option backward.match.sparseCases false
def iK(w:V)(bg:Int):List (Nm×V):=[(cV,.obj 5),(dY,.obj 7),(dB,.int true bg),(dQ,w)]
def gU(w:V)(bg:Int)(x:V):List (Nm×V):=[(cV,.obj 5),(dY,.obj 7),(dB,.int true bg),(dQ,w),(dS,x)]
def iR(H D L Hi:O)(s:Str)(xs:List V)(fr:List (Nm×V))(tl:List O):List O:=[cY,H,D,.list true [],L,Ba s,Hi,.list true xs,.frame fr]++tl
def nP:Option Wy->Nat
 |none=>0
 |some _=>1
def zM:Option Wy->List O
 |none=>[]
 |some v=>[fF 0 7 v]
theorem JQ(sp:jA)(sl:jz)(r:Nat)(lim st:Int)(D L:O):TC sp sl r [0,1,2,3,4] [] 20 573 [.obj 1] ⟨[cY,cX lim st,D,.list true [],L],[.b false],[]⟩ .none [cY,cX lim ((st+1)),D,.list true [],L] [decide (lim<st+1)=false]:=by
 walk_at"k"
section
variable(sp:jA) (sl:jz) (r:Nat) (lim bg:Int) (D L Hi:O) (s:Str) (xs:List V) (p:Option Wy) (pc a:Int) (nm mk:V) (tl:List O) (st:Int) (wd:Str) (xt:List V)
abbrev sR(st:Int)(fr:List (Nm×V)):List O:=iR (cX lim st) D L Hi s xs fr (zM p++iU (.obj 7) (.int true pc) (.int true a) nm mk::tl)
abbrev JX(ch:List Ch)(fl:Fl)(os:List O)(cs:List Prop):Prop:=
 Option.map qi (MM sp sl r [573,475] 30 (d0 iP) 8 ⟨sR lim D L Hi s xs p pc a nm mk tl st (iK (.obj (9+nP p)) bg),.k .none (sR lim D L Hi s xs p pc a nm mk tl (st+1) (iK (.obj (9+nP p)) bg)):: .v (.tup (.str true wd::xt))::ch,[]⟩)=some (fl,os,cs++[0<=pc/\pc<2^62/\nth xs pc.toNat=some (V.tup (V.str true wd::xt)),sp 573 [V.obj 1] (sR lim D L Hi s xs p pc a nm mk tl st (iK (.obj (9+nP p)) bg)) V.none (sR lim D L Hi s xs p pc a nm mk tl (st+1) (iK (.obj (9+nP p)) bg))])
abbrev Hg(c:Bool)(os:List O):List Prop:=[sp 475 [V.obj 5,V.tup (V.str true wd::xt),V.obj (9+nP p)] (sR lim D L Hi s xs p pc a nm mk tl (st+1) (gU (.obj (9+nP p)) bg (.tup (.str true wd::xt)))) (V.bool c) os,decide (wd=S [97,98,111,114,116])=false,decide (wd=S [100,111,110,101])=false]
theorem Eg(I':List O):JX sp sl r lim bg D L Hi s xs p pc a nm mk tl st wd xt [.b false,.b false,.k (.bool true) I'] .next I' (Hg sp lim bg D L Hi s xs p pc a nm mk tl st wd xt true I'):=by cases p<;>walk_at"k"
theorem Li:JX sp sl r lim bg D L Hi s xs p pc a nm mk tl st wd xt [.b true] (.ret (.tup [.int false 0,.obj (9+nP p)])) (sR lim D L Hi s xs p pc a nm mk tl (st+1) (gU (.obj (9+nP p)) bg (.tup (.str true wd::xt)))) [decide (wd=S [100,111,110,101])=true]:=by cases p<;>walk_at"k"
theorem FK:JX sp sl r lim bg D L Hi s xs p pc a nm mk tl st wd xt [.b false,.b true] (.ret (.tup [.int false 2,.none])) (sR lim D L Hi s xs p pc a nm mk tl (st+1) (gU (.obj (9+nP p)) bg (.tup (.str true wd::xt)))) [decide (wd=S [97,98,111,114,116])=true,decide (wd=S [100,111,110,101])=false]:=by cases p<;>walk_at"k"
variable(H1 D1 L1 W1:O) (u':List Value)
theorem KD:JX sp sl r lim bg D L Hi s xs none pc a nm mk tl st wd xt [.b false,.b false,.k (.bool false) (iR H1 D1 L1 (.stk [] []) s xs (gU (.obj 9) bg (.tup (.str true wd::xt))) [W1]),.b false] .next (iR H1 D1 L1 (.stk [] []) s xs (gU .none bg (.tup (.str true wd::xt))) [W1,.frame [(10,.obj 5)]]) ([decide ((0:Int)<↑((0:Nat)+(0:Nat)))=false,(0:Nat)+(0:Nat)<2^62]++Hg sp lim bg D L Hi s xs none pc a nm mk tl st wd xt false (iR H1 D1 L1 (.stk [] []) s xs (gU (.obj 9) bg (.tup (.str true wd::xt))) [W1])):=by walk_at"k"
theorem K1:JX sp sl r lim bg D L Hi s xs none pc a nm mk tl st wd xt [.b false,.b false,.k (.bool false) (iR H1 D1 L1 (.stk [.obj 10] u') s xs (gU (.obj 9) bg (.tup (.str true wd::xt))) [W1,Bn]),.b true] (.ret (.tup [.int false 2,.none])) (iR H1 D1 L1 (.stk [] u') s xs (gU (.obj 10) bg (.tup (.str true wd::xt))) [W1,Bn,.frame [(10,.obj 5)]]) ([u'.length+1<2^20,decide ((0:Int)<↑(u'.length+1))=true,u'.length+1<2^62]++Hg sp lim bg D L Hi s xs none pc a nm mk tl st wd xt false (iR H1 D1 L1 (.stk [.obj 10] u') s xs (gU (.obj 9) bg (.tup (.str true wd::xt))) [W1,Bn])):=by walk_at"k"
theorem Jn(p2 a2 nm2 mk2:V):JX sp sl r lim bg D L Hi s xs p pc a nm mk tl st wd xt [.b false,.b false,.k (.bool false) (iR H1 D1 L1 (.stk [.obj (10+nP p)] u') s xs (gU (.obj (9+nP p)) bg (.tup (.str true wd::xt))) (zM p++[W1,iU (.obj 7) p2 a2 nm2 mk2])),.b true] .next (iR H1 D1 L1 (.stk [] u') s xs (gU (.obj (10+nP p)) bg (.tup (.str true wd::xt))) (zM p++[W1,iU (.obj 7) p2 a2 nm2 mk2,.frame [(10,.obj 5)]])) ([u'.length+1<2^20,decide ((0:Int)<↑(u'.length+1))=true,u'.length+1<2^62]++Hg sp lim bg D L Hi s xs p pc a nm mk tl st wd xt false (iR H1 D1 L1 (.stk [.obj (10+nP p)] u') s xs (gU (.obj (9+nP p)) bg (.tup (.str true wd::xt))) (zM p++[W1,iU (.obj 7) p2 a2 nm2 mk2]))):=by cases p<;>walk_at"k"
theorem Hn(rsp:uS)(rsl:uZ)(I':List O):Option.map zQ ((tP (Pg (fe [573,475]) sp sl r) (Rg (fe [573]) rsp rsl) 30).ss (d0 iP) 8 ⟨sR lim D L Hi s xs p pc a nm mk tl st (iK (.obj (9+nP p)) bg),[.r I'],[]⟩)=some (I',[rsp 573 [V.obj 1] (sR lim D L Hi s xs p pc a nm mk tl st (iK (.obj (9+nP p)) bg)) I']):=by cases p<;>walk_at"k"
end
section
variable{f:Nat->Option Nat} {lim st n:Nat} {lg G':List LE} {s:Str} {os:List fz} {u':List Value} {top top':List V} {tl tl':List O} {fr:List (Nm×V)} {w w':Wy} {bg:Int} {x:iF×List LE×Nat} {o:fz} {h h':Hs} {ok:Bool} {b:Bs} {EI:eZ} {p:Option Wy} {rz:Prop}
theorem ROs.cells(h:∀i,i<8->f i=some i)(ht:RVs f top top')(k:ROs f tl tl'):ROs f (cells lim st lg s (.stk top u') os++tl) (cells lim st lg s (.stk top' u') os++tl'):=
 .k .ref (.k (.host (h _ ()) (h _ ()) (h _ ())) (.k (.valO lg) (.k (.l .z) (.k (.log lg) (.k (.mat (h _ ()) (h _ ())) (.k (.y ht) (.k (.ord (h _ ()) os) k)))))))
theorem ROs.runA(h:∀i,i<8->f i=some i)(ht:RVs f top top'){fr':List (Nm×V)}(hf:FrR f fr fr')(k:ROs f tl tl'):
  ROs f (iR (dG lim st) (valO lg) (dz lg) (.stk top u') s (os.map (ordV 0)) fr tl) (iR (dG lim st) (valO lg) (dz lg) (.stk top' u') s (os.map (ordV 0)) fr' tl'):=
 .k .ref (.k (.host (h _ ()) (h _ ()) (h _ ())) (.k (.valO lg) (.k (.l .z) (.k (.log lg) (.k (.mat (h _ ()) (h _ ())) (.k (.y ht) (.k (.ord (h _ ()) os) (.k (.f hf) k))))))))
theorem ROs.runE(h:∀i,i<8->f i=some i)(k:ROs f tl tl'):
  ROs f (iR (dG lim st) (valO lg) (dz lg) (.stk top u') s (os.map (ordV 0)) fr tl) (iR (dG lim st) (valO lg) (dz lg) .any s (os.map (ordV 0)) [] tl'):=
 .k .ref (.k (.host (h _ ()) (h _ ()) (h _ ())) (.k (.valO lg) (.k (.l .z) (.k (.log lg) (.k (.mat (h _ ()) (h _ ())) (.k .stkAny (.k (.ord (h _ ()) os) (.k (.f .z) k))))))))
theorem FrR.run{v w:V}{x:V}(h:∀i,i<8->f i=some i)(hv:RV f v w):FrR f (gU v bg x) (iK w bg):=
 .k rfl (.o (h _ ())) (.k rfl (.o (h _ ())) (.k rfl .i (.k rfl hv .z)))
theorem Fr{l:List Nat}{m:Nat}(h:kj l 0 8):∀i,i<8->back l m i=some i:=λi hi=>by unfold back;rw[fj h i hi]
theorem kR{a e:Nat}{q:HZ}(ha:a<=s.length)(h:eB s a q=some e):e<=s.length:=by
 cases q with
 |txt t=>
  have h:(if cut s a (a+t.length)=t then some (a+t.length) else none)=some e:=h
  by_cases c:cut s a (a+t.length)=t
  .rw[if_pos c] at h
   have k:=rA s (aA a t.length) ha;rw[c] at k;exact ac h▸o40 ha k
  .rw[if_neg c] at h
   injection h
 |len n=>
  have h:(if a+n<=s.length then some (a+n) else none)=some e:=h
  by_cases c:a+n<=s.length
  .rw[if_pos c] at h
   exact ac h▸c
  .rw[if_neg c] at h
   injection h
 |any=>
  have h:(if a<s.length then(match Txt.contains lW (gH s a) with | true=>some (a+1) | false=>none) else none)=some e:=h
  by_cases c:a<s.length
  .rw[if_pos c] at h
   cases z:Txt.contains lW (gH s a) with
   |true=>rw[z] at h;exact ac h▸c
   |false=>rw[z] at h;injection h
  .rw[if_neg c] at h
   injection h
theorem ng(e:ka s o w h lg=some (ok,w',h',G')):(w.at_<=s.length->w'.at_<=s.length)/\G'.length<=lg.length+1/\w'.nm.length<=w.nm.length+1/\
  (iO o->ok=true/\h'= .top (mK w o)/\G'=lg/\w'=⟨w.pc+1,w.at_,w.nm,w.ms⟩)/\(iO o=false->h'=h):=by
 cases o with
 |one q=>
  have e:(match eB s w.at_ q with | some e=>some (true,⟨w.pc+1,e,w.nm,w.ms⟩,h,lg) | none=>some (false,w,h,lg))=some (ok,w',h',G'):=e;cases z:eB s w.at_ q with
  |some a=>rw[z] at e;injection e;exact⟨λha=>kR ha z,au _,au _,λz=>q3 z,λI=>rfl⟩
  |none=>rw[z] at e;injection e;exact⟨id,au _,au _,λz=>q3 z,λI=>rfl⟩
 |fence=>injection e;exact⟨id,au _,au _,λI=>⟨rfl,rfl,rfl,rfl⟩,λz=>q2 z⟩
 |succeed=>injection e;exact⟨id,au _,au _,λI=>⟨rfl,rfl,rfl,rfl⟩,λz=>q2 z⟩
 |name=>
  obtain⟨pc,a,nm,ms⟩:=w;cases ms with
  |nil=>injection e
  |cons m ms=>injection e;exact⟨id,au _,ao _,λz=>q3 z,λI=>rfl⟩
 |set=>
  obtain⟨pc,a,nm,ms⟩:=w;cases ms with
  |nil=>injection e
  |cons m ms=>injection e;exact⟨id,aY ai,au _,λz=>q3 z,λI=>rfl⟩
 |place=>injection e;exact⟨id,aY ai,au _,λz=>q3 z,λI=>rfl⟩
 |abort=>injection e
 |done=>injection e
 |_=>injection e;exact⟨id,au _,au _,λz=>q3 z,λI=>rfl⟩
theorem rK(e:ka s o w h lg=some (ok,w',h',G'))(ha:w.at_<=s.length):w'.at_<=s.length/\G'.length<=lg.length+1/\
  (iO o->ok=true/\h'= .top (mK w o)/\G'=lg/\w'=⟨w.pc+1,w.at_,w.nm,w.ms⟩)/\(iO o=false->h'=h):=
 ⟨(ng e).1 ha,(ng e).2.1,(ng e).2.2.2⟩
abbrev Ma(n:Nat)(u':List Value)(h:Hs):O:=.stk (nj n h) u'
def tv(lim st:Nat)(lg:List LE)(s:Str)(os:List fz)(bg:Int)(p:Option Wy)(w:Wy)(h:Hs)(u':List Value):List O:=
 iR (dG lim st) (valO lg) (dz lg) (Ma (10+nP p) u' h) s (os.map (ordV 0)) (iK (.obj (9+nP p)) bg) (zM p++fF 0 7 w::lT h)
structure iu(s:Str)(w:Wy)(h:Hs)(lg:List LE)(st:Nat)(u':List Value):Prop where
 bat:w.at_<=s.length
 blg:lg.length<=st
 brest:u'.length<=st
 bst:st<1000
 bemp:h= .emp->u'=[]
 bsuc:∀w2,h= .top (.suc w2)->w2.at_<=s.length
def Iw(lim:Nat)(s:Str)(os:List fz)(bg:Int)(x:iF×List LE×Nat)(N:Nat)(σ:List O):Prop:=
 (∃n p w h lg st u',N=n+1/\σ=tv lim st lg s os bg p w h u'/\fR s os lim n p w h lg st=some x/\iu s w h lg st u')\/
 (N=0/\∃w lg st,σ=iR (dG lim st) (valO lg) (dz lg) (.stk [] []) s (os.map (ordV 0)) (iK .none bg) [fF 0 7 w]/\x=(.failed w,lg,st))
def Ic(lim:Nat)(s:Str)(os:List fz)(bg:Int)(x:iF×List LE×Nat)(fl:Fl)(σ:List O):Prop:=match x with
 |(.met w,lg,st)=>fl= .ret (.tup [.int true 0,.obj 9])/\σ=iR (dG lim st) (valO lg) (dz lg) .any s (os.map (ordV 0)) [] [fF 0 7 w]
 |(.over w,lg,st)=>fl= .ret (.tup [.int true 2,.none])/\σ=iR (dG lim st) (valO lg) (dz lg) .any s (os.map (ordV 0)) [] [fF 0 7 w]
 |(.failed w,lg,st)=>fl= .next/\σ=iR (dG lim st) (valO lg) (dz lg) (.stk [] []) s (os.map (ordV 0)) (iK .none bg) [fF 0 7 w]
 |(.raised _,_,_)=>False
def HD(lim:Nat)(s:Str)(os:List fz)(x:iF×List LE×Nat)(σ:List O):Prop:=match x with
 |(.raised w,lg,st)=>σ=iR (dG lim st) (valO lg) (dz lg) .any s (os.map (ordV 0)) [] [fF 0 7 w]
 |_=>False
theorem md(G:dI b)(A':¬lim<st+1)(tl:List O):Ct b 40 573 [.obj 1] ([cY,dG lim st,valO lg,.list true [],dz lg]++tl) .none ([cY,dG lim (st+1),valO lg,.list true [],dz lg]++tl):=by
 have T:Ct b 20 573 [.obj 1] [cY,dG lim st,valO lg,.list true [],dz lg] .none [cY,dG lim (st+1),valO lg,.list true [],dz lg]:=
  dF G (r:=0) (n:=20) (l₀:=[]) [0,1,2,3,4] (JQ _ _ _ (lim:Int) (st:Int) (valO lg) (dz lg)) ⟨ag (by omega),N4⟩ (.k .ref (.k (.host (st:=st+1) rfl rfl rfl) (.k (.valO lg) (.k (.l .z) (.k (.log lg) .z))))) .n
 have q:=fJ.frame (l:=[0,1,2,3,4]) (os:=[cY,dG lim st,valO lg,.list true [],dz lg]++tl) (I':=[cY,dG lim st,valO lg,.list true [],dz lg]) (news:=[cY,dG lim (st+1),valO lg,.list true [],dz lg]) (vs:=[.obj 1]) (w:=.none) rfl T rfl ()
  (.k .ref (.k (.host rfl rfl rfl) (.k (.valO lg) (.k (.l .z) (.k (.log lg) .z))))) (.k (.o rfl) .z)
  (.k .ref (.k (.host rfl rfl rfl) (.k (.valO lg) (.k (.l .z) (.k (.log lg) .z))))) .n
 have q':Ct b 20 573 [.obj 1] ([cY,dG lim st,valO lg,.list true [],dz lg]++tl) .none (([cY,dG lim (st+1),valO lg,.list true [],dz lg]++tl)++[]):=q;rw[aQ] at q';exact q'.more ()
def ik(b:Bs)(EI:eZ):Prop:=∀lim st lg,lim<st+1->st<1000->eU ((C b).at 40) EI 573 [.obj 1] [cY,dG lim st,valO lg,.list true [],dz lg] [cY,dG lim (st+1),valO lg,.list true [],dz lg]
theorem Eb(SX:ik b EI)(A':lim<st+1)(hs:st<1000)(tl:List O):eU ((C b).at 40) EI 573 [.obj 1] ([cY,dG lim st,valO lg,.list true [],dz lg]++tl) ([cY,dG lim (st+1),valO lg,.list true [],dz lg]++tl):=by
 have q:=eU.frame (l:=[0,1,2,3,4]) (os:=[cY,dG lim st,valO lg,.list true [],dz lg]++tl) (I':=[cY,dG lim st,valO lg,.list true [],dz lg]) (news:=[cY,dG lim (st+1),valO lg,.list true [],dz lg]) (vs:=[.obj 1]) rfl (SX lim st lg A' hs) rfl ()
  (.k .ref (.k (.host rfl rfl rfl) (.k (.valO lg) (.k (.l .z) (.k (.log lg) .z))))) (.k (.o rfl) .z)
  (.k .ref (.k (.host rfl rfl rfl) (.k (.valO lg) (.k (.l .z) (.k (.log lg) .z)))))
 have q':eU ((C b).at 40) EI 573 [.obj 1] ([cY,dG lim st,valO lg,.list true [],dz lg]++tl) (([cY,dG lim (st+1),valO lg,.list true [],dz lg]++tl)++[]):=q;rw[aQ] at q';exact q'
def CC(p:Option Wy)(h:Hs):List Nat:=[0,1,2,3,4,5,6,7]++match h with
 | .top _=>[9+nP p,10+nP p]
 |_=>[9+nP p]
abbrev Do(p:Option Wy)(lim st:Nat)(lg:List LE)(s:Str)(os:List fz)(u':List Value)(fr:List (Nm×V))(top:List V)(tl:List O):List O:=iR (dG lim st) (valO lg) (dz lg) (.stk top u') s (os.map (ordV 0)) fr (zM p++tl)
theorem Nf(p:Option Wy)(h:Hs):fb (CC p h) (9+nP p)=some 8:=by cases p<;>cases h<;>rfl
theorem Mo(p:Option Wy)(t:Ht):fb (CC p (.top t)) (10+nP p)=some 9:=by cases p<;>rfl
theorem MQ(p:Option Wy)(t:Ht)(m:Nat):back (CC p (.top t)) m 9=some (10+nP p):=by cases p<;>rfl
theorem Nk(p:Option Wy)(h:Hs):kj (CC p h) 0 8:=by cases h<;>rfl
theorem Nc(p:Option Wy)(h:Hs){tp:List V}{x:O}:(Do p lim st lg s os u' fr tp (x::lT h)).length=10+nP p+nH h:=by cases p<;>cases h<;>rfl
theorem FR{topB:List V}{H':List O}
  (H:Ct b 40 475 [.obj 5,ordW 0 o,.obj 8] (cells lim st lg s (.stk (nj 9 h) u') os++(fF 0 7 w::lT h)) (.bool ok) (cells lim st G' s (.stk top' u') os++(fF 0 7 w'::tl')))
  (hT:∀m,m=10+nP p+nH h->RVs (back (CC p h) m) top' topB) (hX:∀f:Nat->Option Nat,f 0=some 0->f 7=some 7->ROs f tl' tl')
  (eq:fB (Do p lim st lg s os u' fr (nj (10+nP p) h) (fF 0 7 w::lT h)) (CC p h) ((cells lim st G' s (.stk topB u') os++(fF 0 7 w'::tl')).take (CC p h).length)++(cells lim st G' s (.stk topB u') os++(fF 0 7 w'::tl')).drop (CC p h).length=H'):
  Ct b 40 475 [.obj 5,ordV 0 o,.obj (9+nP p)] (Do p lim st lg s os u' fr (nj (10+nP p) h) (fF 0 7 w::lT h)) (.bool ok) H':=by
 have z:∀i,i<8->fb (CC p h) i=some i:=q8 _;have z9:=Nf p h;have zt:∀t,h= .top t->fb (CC p h) (10+nP p)=some 9:=λt e=>by rw[e];exact Mo p t
 have y:∀m i,i<8->back (CC p h) m i=some i:=λm=>Fr (Nk p h);have q:=fJ.frame (l:=CC p h) (os:=Do p lim st lg s os u' fr (nj (10+nP p) h) (fF 0 7 w::lT h)) (I':=cells lim st lg s (.stk (nj (10+nP p) h) u') os++(fF 0 7 w::lT h)) (news:=cells lim st G' s (.stk topB u') os++(fF 0 7 w'::tl')) (vs:=[.obj 5,ordV 0 o,.obj (9+nP p)]) (w:=.bool ok) rfl H (by cases p<;>cases h<;>rfl) (jS (by cases p<;>cases h<;>rfl))
  (.cells z (.hs zt) (.k (.way (z 0 ()) (z 7 ()) w) (.hs1 (z 0 ()) (z 7 ())))) (.k (.o (z 5 ())) (.k (.ordW (z 0 ()) o) (.k (.o z9) .z)))
  (.cells (y _) (hT _ (Nc p h)) (.k (.way (y _ 0 ()) (y _ 7 ()) w') (hX _ (y _ 0 ()) (y _ 7 ())))) .b
 rw[eq] at q;exact q
theorem vC(G:dI b)(hs:s.length<=8)(ha:w.at_<=s.length)(hl:lg.length<2^20)(ht:∀t,nth os w.pc=some (.one (.txt t))->t.length<2^20)(ho:nth os w.pc=some o)(np:iO o=false)(e:ka s o w h lg=some (ok,w',h',G'))(fr:List (Nm×V)):
  Ct b 40 475 [.obj 5,ordV 0 o,.obj (9+nP p)] (Do p lim st lg s os u' fr (nj (10+nP p) h) (fF 0 7 w::lT h)) (.bool ok) (Do p lim st G' s os u' fr (nj (10+nP p) h) (fF 0 7 w'::lT h)):=
 FR (topB:=nj (10+nP p) h) (IB G hs ha hl ht ho np e) (λm I=>.hs λt e=>by rw[e];exact MQ p t m) (λf h0 h7=>.hs1 h0 h7) (by clear G hs ha hl ht ho np e;cases p<;>cases h<;>rfl)
theorem I3(G:dI b)(hr:u'.length+(nj 9 h).length<2^20)(np:iO o)(fr:List (Nm×V)):
  Ct b 40 475 [.obj 5,ordV 0 o,.obj (9+nP p)] (Do p lim st lg s os u' fr (nj (10+nP p) h) (fF 0 7 w::lT h)) (.bool true) (Do p lim st lg s os u' fr (.obj (10+nP p+nH h)::nj (10+nP p) h) (fF 0 7 ⟨w.pc+1,w.at_,w.nm,w.ms⟩::(lT h++[Bv 0 7 (mK w o)]))):=
 FR (topB:=.obj (10+nP p+nH h)::nj (10+nP p) h) (Jm G hr np) (λm e=>.k (.o (by rw[e];clear G hr np e m;cases p<;>cases h<;>rfl)) (.hs λt e=>by rw[e];exact MQ p t m)) (λf h0 h7=>.hs h0 h7 (.k (.top h0 h7 _) .z)) (by clear G hr np;cases p<;>cases h<;>rfl)
theorem jP(ho:nth os w.pc=some o)(h1:eJ o≠gC)(h2:eJ o≠eV)(A':¬lim<st+1):fR s os lim (n+1) p w h lg st=match ka s o w h lg with
   |none=>none
   |some (true,w,h,lg)=>fR s os lim n p w h lg (st+1)
   |some (false,w',h,lg)=>match h with
    | .emp=>match p with | none=>some (.failed w',lg,st+1) | some _=>none
    | .opq=>none
    | .top .fen=>match p with | none=>some (.over w',lg,st+1) | some _=>none
    | .top (.suc w2)=>fR s os lim n (some (first p w')) w2 .opq lg (st+1):=by
 show(if lim<st+1 then _ else _)=_;rw[if_neg A',ho];clear ho A';cases o<;>first | rfl | exact absurd rfl h1 | exact absurd rfl h2
abbrev tU(b:Bs)(EI:eZ)(rz:Prop)(lim st:Nat)(lg:List LE)(s:Str)(os:List fz)(bg:Int)(p:Option Wy)(w:Wy)(h:Hs)(u':List Value)(x:iF×List LE×Nat)(n:Nat):Prop:=
 iC (C b) 40 (fe [573,475]) (fe [573]) EI rz 30 10 (d0 iP) 8 (tv lim st lg s os bg p w h u') (Ic lim s os bg x) (HD lim s os x) (λσ'=>∃N',N'<n+1/\Iw lim s os bg x N' σ')
structure RC(b:Bs)(s:Str)(lim:Nat)(os:List fz)(x:iF×List LE×Nat)(EI:eZ)(rz:Prop):Prop where
 G:dI b
 hs:s.length<=8
 hlim:lim<1000
 hos:os.length<1000
 ht:∀i t,nth os i=some (.one (.txt t))->t.length<2^20
 SX:(∃w l t,x=(iF.raised w,l,t))->rz/\ik b EI
theorem nU(K:RC b s lim os x EI rz)(ho:nth os w.pc=some o):(0:Int)<=w.pc/\(w.pc:Int)<2^62/\nth (os.map (ordV 0)) (w.pc:Int).toNat=some (ordV 0 o):=
 ⟨Int.natCast_nonneg _,by have:=fO ho;have:=K.hos;omega,by show nth (os.map (ordV 0)) w.pc=_;rw[jE,ho];rfl⟩
def LR(p:Option Wy)(h:Hs):List Nat:=[0,1,2,3,4,5,6,7]++match p with
 |none=>match h with
  | .top _=>[8,9,10]
  |_=>[8,9]
 |some _=>match h with
  | .top _=>[8,9,10,11]
  |_=>[8,9,10]
def Nh(p:Option Wy):List Nat:=[0,1,2,3,4,5,6,7]++match p with
 |none=>[8,9,11]
 |some _=>[8,9,10,12]
def Nt(p:Option Wy):List Nat:=[0,1,2,3,4,5,6,7]++match p with
 |none=>[8,9,10]
 |some _=>[8,9,11]
theorem Aa{y:V}{J:List O->Prop}(hJ:J (tv lim st lg s os bg p w h u')):dg (C b) 10 (fb (LR p h)) (Do p lim st lg s os u' (gU (.obj (9+nP p)) bg y) (nj (10+nP p) h) (fF 0 7 w::lT h)) J:=by
 have z:∀i,i<8->fb (LR p h) i=some i:=q8 _;refine dg.to (I':=Do p lim st lg s os u' (gU (.obj (9+nP p)) bg y) (nj (10+nP p) h) (fF 0 7 w::lT h)) hJ (by cases p<;>cases h<;>rfl) (.runA z (.hs λt e=>by subst e;cases p<;>rfl) (.run z (.o (by cases p<;>cases h<;>rfl))) ?_) (jS (by cases p<;>cases h<;>rfl)) (by cases p<;>cases h<;>rfl);have k:ROs (fb (LR p h)) (fF 0 7 w::lT h) (fF 0 7 w::lT h):=.k (.way (z 0 ()) (z 7 ()) w) (.hs1 (z 0 ()) (z 7 ()));cases p with
 |none=>exact k
 |some v=>exact .k (.way (z 0 ()) (z 7 ()) v) k
theorem Ce(K:RC b s lim os x EI rz)(inv:iu s w h lg st u')(A':lim<st+1)(hx:x=(.raised (first p w),lg,st+1)):tU b EI rz lim st lg s os bg p w h u' x n:=by
 subst hx;exact BP (K.SX ⟨_,_,_,rfl⟩).1 (Hn (I':=iR (dG lim (st+1)) (valO lg) (dz lg) (Ma (10+nP p) u' h) s (os.map (ordV 0)) (iK (.obj (9+nP p)) bg) (zM p++fF 0 7 w::lT h)) ..) ⟨Eb (K.SX ⟨_,_,_,rfl⟩).2 A' inv.bst _,N4⟩ ⟨_,dg.to (l:=[0,1,2,3,4,5,6,7,8,9]) (I':=iR (dG lim (st+1)) (valO lg) (dz lg) (Ma (10+nP p) u' h) s (os.map (ordV 0)) (iK (.obj (9+nP p)) bg) [fF 0 7 (first p w)]) (H':=iR (dG lim (st+1)) (valO lg) (dz lg) .any s (os.map (ordV 0)) [] [fF 0 7 (first p w)]) rfl (by cases p<;>rfl) (.runE () (.k (.way (by rfl) (by rfl) (first p w)) .z))⟩
theorem GW(K:RC b s lim os x EI rz)(A':¬lim<st+1)(ho:nth os w.pc=some o)(hw:eJ o=gC)(hx:x=(.met w,lg,st+1)):tU b EI rz lim st lg s os bg none w h u' x n:=by
 subst hx;exact uL (Li (p:=none) (wd:=eJ o) (xt:=ordTl 0 o) (nm:=nmR 0 w.nm) (mk:=trR w.ms) ..) ⟨av hw,nU K ho,md K.G A' _,N4⟩ (.t (.k .i (.k (.o (by rfl)) .z))) (dg.to (l:=[0,1,2,3,4,5,6,7,8,9]) (H':=iR (dG lim (st+1)) (valO lg) (dz lg) .any s (os.map (ordV 0)) [] [fF 0 7 w]) ⟨rfl,rfl⟩ rfl (.runE (st:=st+1) () (.k (.way (by rfl) (by rfl) w) .z)))
theorem Bk(K:RC b s lim os x EI rz)(A':¬lim<st+1)(ho:nth os w.pc=some o)(hw:eJ o=eV)(hx:x=(.over w,lg,st+1)):tU b EI rz lim st lg s os bg none w h u' x n:=by
 subst hx;exact uL (FK (p:=none) (wd:=eJ o) (xt:=ordTl 0 o) (nm:=nmR 0 w.nm) (mk:=trR w.ms) ..) ⟨av hw,ag (by rw[hw];decide),nU K ho,md K.G A' _,N4⟩ (.t (.k .i (.k .n .z))) (dg.to (l:=[0,1,2,3,4,5,6,7,8,9]) (H':=iR (dG lim (st+1)) (valO lg) (dz lg) .any s (os.map (ordV 0)) [] [fF 0 7 w]) ⟨rfl,rfl⟩ rfl (.runE (st:=st+1) () (.k (.way (by rfl) (by rfl) w) .z)))
theorem nL(inv:iu s w h lg st u'):lg.length<2^20/\u'.length+1<2^20:=⟨by have:=inv.blg;have:=inv.bst;omega,by have:=inv.brest;have:=inv.bst;omega⟩
theorem C0{n':Nat}(K:RC b s lim os x EI rz)(inv:iu s w h lg st u')(A':¬lim<st+1)(ho:nth os w.pc=some o)(h1:eJ o≠gC)(h2:eJ o≠eV)(np:iO o=false)(hd:ka s o w h lg=some (true,w',h,G'))(hn:n=n'+1)(hm:fR s os lim n' p w' h G' (st+1)=some x):tU b EI rz lim st lg s os bg p w h u' x n:=by
 have k:=rK hd inv.bat;have inv':iu s w' h G' (st+1) u':=⟨k.1,ax k.2.1 (aC inv.blg),aG inv.brest,by have:=K.hlim;omega,inv.bemp,inv.bsuc⟩
 exact ph (Eg (wd:=eJ o) (xt:=ordTl 0 o) (nm:=nmR 0 w.nm) (mk:=trR w.ms) ..) ⟨vC K.G K.hs inv.bat (nL inv).1 (λt=>K.ht _ t) ho np hd _,ag h2,ag h1,nU K ho,md K.G A' _,N4⟩ ⟨_,Aa ⟨n,aX _,.inl ⟨n',p,w',h,G',st+1,u',hn,rfl,hm,inv'⟩⟩⟩
end
nonrec theorem Dx{b:Bs}{lim st:Nat}{s:Str}{os:List fz}{w:Wy}{lg:List LE}{u':List Value}{EI:eZ}{bg:Int}{x:iF×List LE×Nat}{rz:Prop}{n n':Nat}{{p:Option Wy}}(K:RC b s lim os x EI rz){h:Hs}(inv:iu s w h lg st u')(A':¬lim<st+1){o:fz}(ho:nth os w.pc=some o)(h1:eJ o≠gC)(h2:eJ o≠eV)(np:iO o)(hn:n=n'+1)(hm:fR s os lim n' p ⟨w.pc+1,w.at_,w.nm,w.ms⟩ (.top (mK w o)) lg (st+1)=some x):tU b EI rz lim st lg s os bg p w h u' x n:=by
 have inv1:∀r:List Value,r.length<=st+1->iu s ⟨w.pc+1,w.at_,w.nm,w.ms⟩ (.top (mK w o)) lg (st+1) r:=λr hr=>⟨inv.bat,aG inv.blg,hr,by have:=K.hlim;omega,λz=>(by cases z),λw2 z=>by
  cases o with
  |fence=>
   have z:Hs.top .fen=Hs.top (.suc w2):=z;cases z
  |succeed=>
   have z:Hs.top (.suc w)=Hs.top (.suc w2):=z;cases z;exact inv.bat
  |_=>cases np⟩
 have hr:u'.length+(nj 9 h).length<2^20:=by
  have:=(nL inv).2;cases h with
  |top t=>exact this
  |_=>exact Nat.lt_of_succ_lt this
 refine ph (Eg (wd:=eJ o) (xt:=ordTl 0 o) (nm:=nmR 0 w.nm) (mk:=trR w.ms) ..) ⟨I3 K.G hr np _,ag h2,ag h1,nU K ho,md K.G A' _,N4⟩ ?_;have go:∀r:List Value,r.length<=st+1->∃N',N'<n+1/\Iw lim s os bg x N' (tv lim (st+1) lg s os bg p ⟨w.pc+1,w.at_,w.nm,w.ms⟩ (.top (mK w o)) r):=λr hr=>⟨n,aX _,.inl ⟨n',p,_,_,lg,st+1,r,hn,rfl,hm,inv1 r hr⟩⟩
 cases h with
 |top t=>
  refine⟨_,dg.absorb (i:=6) rfl λx=>dg.to (l:=Nh p) (I':=Do p lim (st+1) lg s os (u'++[x]) (gU (.obj (9+nP p)) bg (ordV 0 o)) [.obj (11+nP p)] [fF 0 7 ⟨w.pc+1,w.at_,w.nm,w.ms⟩,Bv 0 7 (mK w o)]) (go (u'++[x]) (by rw[ai];exact aC inv.brest)) (by cases p<;>rfl) ?_ (jS (by cases p<;>rfl)) (by cases p<;>rfl)⟩;cases p with
  |none=>exact .runA (st:=st+1) (q8 _) (.k (.o (by rfl)) .z) (.run (q8 _) (.o (by rfl))) (.k (.way (by rfl) (by rfl) _) (.k (.top (by rfl) (by rfl) (mK w o)) .z))
  |some v=>exact .runA (st:=st+1) (q8 _) (.k (.o (by rfl)) .z) (.run (q8 _) (.o (by rfl))) (.k (.way (by rfl) (by rfl) v) (.k (.way (by rfl) (by rfl) _) (.k (.top (by rfl) (by rfl) (mK w o)) .z)))
 |_=>exact⟨_,Aa (h:=.top (mK w o)) (go u' (aG inv.brest))⟩
theorem FO{b:Bs}{lim st:Nat}{s:Str}{os:List fz}{w:Wy}{lg:List LE}{u':List Value}{EI:eZ}{bg:Int}{x:iF×List LE×Nat}{rz:Prop}{n:Nat}{o:fz}{w':Wy}{G':List LE}(K:RC b s lim os x EI rz)(inv:iu s w .emp lg st u')(A':¬lim<st+1)(ho:nth os w.pc=some o)(h1:eJ o≠gC)(h2:eJ o≠eV)(np:iO o=false)(hd:ka s o w .emp lg=some (false,w',.emp,G'))(hx:x=(.failed w',G',st+1)):tU b EI rz lim st lg s os bg none w .emp u' x n:=by
 subst hx;obtain rfl:=inv.bemp rfl;exact ph (KD (wd:=eJ o) (xt:=ordTl 0 o) (nm:=nmR 0 w.nm) (mk:=trR w.ms) ..) ⟨rfl,by decide,vC (p:=none) K.G K.hs inv.bat (nL inv).1 (λt=>K.ht _ t) ho np hd _,ag h2,ag h1,nU K ho,md K.G A' _,N4⟩ ⟨_,dg.to (l:=[0,1,2,3,4,5,6,7,8,9]) (H':=iR (dG lim (st+1)) (valO G') (dz G') (.stk [] []) s (os.map (ordV 0)) (iK .none bg) [fF 0 7 w']) ⟨0,Nat.succ_pos _,.inr ⟨rfl,w',G',st+1,rfl,rfl⟩⟩ rfl (.runA (st:=st+1) () .z (.run () .n) (.k (.way (by rfl) (by rfl) w') .z))⟩
theorem GE{b:Bs}{lim st:Nat}{s:Str}{os:List fz}{w:Wy}{lg:List LE}{u':List Value}{EI:eZ}{bg:Int}{x:iF×List LE×Nat}{rz:Prop}{n:Nat}{o:fz}{w':Wy}{G':List LE}(K:RC b s lim os x EI rz)(inv:iu s w (.top .fen) lg st u')(A':¬lim<st+1)(ho:nth os w.pc=some o)(h1:eJ o≠gC)(h2:eJ o≠eV)(np:iO o=false)(hd:ka s o w (.top .fen) lg=some (false,w',.top .fen,G'))(hx:x=(.over w',G',st+1)):tU b EI rz lim st lg s os bg none w (.top .fen) u' x n:=by
 subst hx;have hr:=(nL inv).2;exact uL (K1 (wd:=eJ o) (xt:=ordTl 0 o) (nm:=nmR 0 w.nm) (mk:=trR w.ms) ..) ⟨hr,av (by omega),by omega,vC (p:=none) K.G K.hs inv.bat (nL inv).1 (λt=>K.ht _ t) ho np hd _,ag h2,ag h1,nU K ho,md K.G A' _,N4⟩ (.t (.k .i (.k .n .z))) (dg.to (l:=[0,1,2,3,4,5,6,7,8,9]) (H':=iR (dG lim (st+1)) (valO G') (dz G') .any s (os.map (ordV 0)) [] [fF 0 7 w']) ⟨rfl,rfl⟩ rfl (.runE (st:=st+1) () (.k (.way (by rfl) (by rfl) w') .z)))
nonrec theorem FM{b:Bs}{lim st:Nat}{s:Str}{os:List fz}{w:Wy}{lg:List LE}{u':List Value}{EI:eZ}{bg:Int}{rz:Prop}{n:Nat}{w2 w':Wy}{G':List LE}{n':Nat}{x:iF×List LE×Nat}{o:fz}{{p:Option Wy}}(K:RC b s lim os x EI rz)(inv:iu s w (.top (.suc w2)) lg st u')(A':¬lim<st+1)(ho:nth os w.pc=some o)(h1:eJ o≠gC)(h2:eJ o≠eV)(np:iO o=false)(hd:ka s o w (.top (.suc w2)) lg=some (false,w',.top (.suc w2),G'))(hn:n=n'+1)(hm:fR s os lim n' (some (first p w')) w2 .opq G' (st+1)=some x):tU b EI rz lim st lg s os bg p w (.top (.suc w2)) u' x n:=by
 have k:=rK hd inv.bat;have hr:=(nL inv).2;have inv':iu s w2 .opq G' (st+1) u':=⟨inv.bsuc w2 rfl,ax k.2.1 (aC inv.blg),aG inv.brest,by have:=K.hlim;omega,λz=>(by injection z),λI z=>by injection z⟩
 refine ph (Jn (wd:=eJ o) (xt:=ordTl 0 o) (nm:=nmR 0 w.nm) (mk:=trR w.ms) (p2:=.int true (w2.pc:Int)) (a2:=.int true (w2.at_:Int)) (nm2:=nmR 0 w2.nm) (mk2:=trR w2.ms) ..) ⟨hr,av (by omega),by omega,vC (h:=.top (.suc w2)) K.G K.hs inv.bat (nL inv).1 (λt=>K.ht _ t) ho np hd _,ag h2,ag h1,nU K ho,md K.G A' _,N4⟩ ⟨_,dg.to (l:=Nt p) (I':=iR (dG lim (st+1)) (valO G') (dz G') (.stk [] u') s (os.map (ordV 0)) (gU (.obj (10+nP p)) bg (ordV 0 o)) [fF 0 7 (first p w'),fF 0 7 w2]) (H':=tv lim (st+1) G' s os bg (some (first p w')) w2 .opq u') ⟨n,aX _,.inl ⟨n',some (first p w'),w2,.opq,G',st+1,u',hn,rfl,hm,inv'⟩⟩ (by cases p<;>rfl) ?_ (jS (by cases p<;>rfl)) (by cases p<;>rfl)⟩;cases p with
 |none=>exact .runA (st:=st+1) (q8 _) .z (.run (q8 _) (.o (by rfl))) (.k (.way (by rfl) (by rfl) _) (.k (.way (by rfl) (by rfl) w2) .z))
 |some v=>exact .runA (st:=st+1) (q8 _) .z (.run (q8 _) (.o (by rfl))) (.k (.way (by rfl) (by rfl) _) (.k (.way (by rfl) (by rfl) w2) .z))
section
variable{lim st:Nat} {os:List fz} {lg:List LE}
theorem qn{s:Str}{w:Wy}{n:Nat}{p:Option Wy}{h:Hs}(ho:nth os w.pc=some .done)(A':¬lim<st+1):fR s os lim (n+1) p w h lg st=match p with | none=>some (.met w,lg,st+1) | some _=>none:=by
 show(if lim<st+1 then _ else _)=_;rw[if_neg A',ho]
 try rfl
theorem nK{s:Str}{w:Wy}{n:Nat}{p:Option Wy}{h:Hs}(ho:nth os w.pc=some .abort)(A':¬lim<st+1):fR s os lim (n+1) p w h lg st=match p with | none=>some (.over w,lg,st+1) | some _=>none:=by
 show(if lim<st+1 then _ else _)=_;rw[if_neg A',ho]
 try rfl
theorem xD{s:Str}{w:Wy}{n:Nat}{p:Option Wy}{h:Hs}(ho:nth os w.pc=none)(A':¬lim<st+1):fR s os lim (n+1) p w h lg st=none:=by
 show(if lim<st+1 then _ else _)=_;rw[if_neg A',ho]
 try rfl
end
nonrec theorem CN{b:Bs}{st:Nat}{s:Str}{os:List fz}{w:Wy}{lg:List LE}{u':List Value}{EI:eZ}{bg:Int}{rz:Prop}{{lim:Nat}}{{x:iF×List LE×Nat}}(K:RC b s lim os x EI rz){n:Nat}{p:Option Wy}{h:Hs}(inv:iu s w h lg st u')(hm:fR s os lim n p w h lg st=some x):
  tU b EI rz lim st lg s os bg p w h u' x n:=by
 cases n with
 |zero=>injection hm
 |succ n=>
  by_cases A':lim<st+1
  .have hm:(if lim<st+1 then some (iF.raised (first p w),lg,st+1) else _)=some x:=hm
   rw[if_pos A'] at hm;have hx:=(ac hm).symm;exact Ce K inv A' hx
  .cases ho:nth os w.pc with
   |none=>
    rw[xD ho A'] at hm;injection hm
   |some o=>
    have gen:eJ o≠gC->eJ o≠eV->tU b EI rz lim st lg s os bg p w h u' x (n+1):=λh1 h2=>by
     rw[jP ho h1 h2 A'] at hm;cases hd:ka s o w h lg with
     |none=>rw[hd] at hm;injection hm
     |some q=>
      obtain⟨ok,w',h',G'⟩:=q;rw[hd] at hm;have k:=rK hd inv.bat;cases hp:iO o with
      |true=>
       obtain⟨rfl,rfl,rfl,rfl⟩:=k.2.2.1 hp;exact Dx K inv A' ho h1 h2 hp rfl hm
      |false=>
       obtain rfl:=k.2.2.2 hp;cases ok with
       |true=>
        exact C0 K inv A' ho h1 h2 hp hd rfl hm
       |false=>
        cases h' with
        |emp=>
         cases p with
         |none=>exact FO K inv A' ho h1 h2 hp hd (ac hm).symm
         |some v9=>injection hm
        |opq=>injection hm
        |top t=>
         cases t with
         |fen=>
          cases p with
          |none=>exact GE K inv A' ho h1 h2 hp hd (ac hm).symm
          |some v9=>injection hm
         |suc w2=>
          exact FM K inv A' ho h1 h2 hp hd rfl hm
    cases o with
    |done=>
     rw[qn ho A'] at hm;cases p with
     |none=>exact GW K A' ho rfl (ac hm).symm
     |some v9=>injection hm
    |abort=>
     rw[nK ho A'] at hm;cases p with
     |none=>exact Bk K A' ho rfl (ac hm).symm
     |some v9=>injection hm
    |one q=>exact gen (show mq≠gC by decide) (show mq≠eV by decide)
    |_=>exact gen () ()
nonrec theorem xf{b:Bs}{lim st:Nat}{s:Str}{os:List fz}{w:Wy}{lg:List LE}{EI:eZ}{bg:Int}{rz:Prop}{n:Nat}(G:dI b)(hs:s.length<=8)(hlim:lim<1000)(hos:os.length<1000)(ht:∀i t,nth os i=some (.one (.txt t))->t.length<2^20){x:iF×List LE×Nat}(SX:(∃w l t,x=(iF.raised w,l,t))->rz/\ik b EI)(inv:iu s w .emp lg st [])(hm:fR s os lim n none w .emp lg st=some x):dL ((C b).at (30+40)) EI rz iP 8 (tv lim st lg s os bg none w .emp []) (Ic lim s os bg x) (HD lim s os x):=by
 show dL _ _ _ (.while (.cmp .IsNot (.loc dQ) (.cst .none)) (d0 iP)) _ _ _ _;refine pG (c:=C b) (r:=40) (n:=30) (k:=10) (orc:=fe [573,475]) (orc':=fe [573]) G.X G.F (dD G ()) (dD G ()) (ao _) (Iw lim s os bg x) (λN σ hI=>?_) (n+1) (.inl ⟨n,none,w,.emp,lg,st,[],rfl,rfl,hm,inv⟩);rcases hI with⟨n,p,w,h,lg,st,u',rfl,rfl,hm,inv⟩ | ⟨rfl,w,lg,st,rfl,rfl⟩
 .refine⟨[],true,⟨tv lim st lg s os bg p w h u',[],[]⟩,?_,(λI m=>by cases m),CN ⟨G,hs,hlim,hos,ht,SX⟩ inv hm⟩
  cases p<;>cases h<;>rfl
 .exact⟨[],false,⟨_,[],[]⟩,rfl,(λI m=>by cases m),⟨some,dg.id ⟨rfl,rfl⟩⟩⟩
end
section
set_option backward.match.sparseCases false
def HS(H D L Hi:O)(s:Str)(xs:List V)(tl:List O):List O:=[cY,H,D,.list true [],L,Ba s,Hi,.list true xs]++tl
def wE(bg:Int):List (Nm×V):=[(cV,.obj 5),(dY,.obj 7),(dB,.int true bg)]
def kg(R H D L:O)(xs:List V)(tl:List O):List O:=[R,H,D,.list true [],L,.list true xs]++tl
def po(s:Str)(an:Bool):List (Nm×V):=[(dY,.obj 5),(cS,.str true s),(cT,.bool an),(dt,.obj 1)]
def iA(s:Str)(an:Bool)(j:Int):List (Nm×V):=[(dY,.obj 5),(cS,.str true s),(cT,.bool an),(dt,.obj 1),(dB,.int true j)]
def sX(s:Str)(an:Bool)(j:Int)(h w:V):List (Nm×V):=[(dY,.obj 5),(cS,.str true s),(cT,.bool an),(dt,.obj 1),(dB,.int true j),(A8,h),(dQ,w)]
def tH(s:Str):O:=.inst 513 [(cS,.str true s),(dt,.obj 1),(hG,.obj 9)]
def xU(s:Str):List (Nm×V):=[(cV,.obj 7),(cS,.str true s),(dt,.obj 1)]
section
variable(sp:jA) (sl:jz) (r:Nat) (rsp:uS) (rsl:uZ) (lim st bg:Int) (D L Hi:O) (s:Str) (R:O) (nm last:V) (xs:List V) (fr:List (Nm×V)) (H1 D1 L1 W1:O)
theorem Gi:TC sp sl r [0,1,2,3,4,5,6,7,8,9] [] 10 426 [.obj 9,.obj 7,.int false 0,.int true bg,.none,.none,.none] ⟨iR (cX lim st) D L Hi s xs fr [.inst 436 []],[],[]⟩ .none (iR (cX lim st) D L Hi s xs fr [iU (.obj 7) (.int false 0) (.int true bg) .none .none]) []:=by
 walk_at"k"
theorem JS:TC sp sl r [0,1,2,3,4,5,6,7,9] [426] 20 461 [.obj 5,.obj 7,.int true bg] ⟨HS (cX lim st) D L Hi s xs [],[.k .none (iR (cX lim st) D L Hi s xs (wE bg) [iU (.obj 7) (.int true 0) (.int true bg) .none .none]),.l (.ret (.tup [.int true 0,.obj 9])) (iR H1 D1 L1 .any s xs [] [W1])],[]⟩ (.tup [.int true 0,.obj 9]) (HS H1 D1 L1 .any s xs [W1]) [sl iP 8 (iR (cX lim st) D L Hi s xs (iK (.obj 9) bg) [iU (.obj 7) (.int true 0) (.int true bg) .none .none]) (Fl.ret (V.tup [V.int true 0,V.obj 9])) (iR H1 D1 L1 .any s xs [] [W1]),sp 426 [.obj 9,.obj 7,.int false 0,.int true bg,.none,.none,.none] (iR (cX lim st) D L Hi s xs (wE bg) [.inst 436 []]) V.none (iR (cX lim st) D L Hi s xs (wE bg) [iU (.obj 7) (.int true 0) (.int true bg) .none .none])]:=by
 walk_at"k"
theorem Fw:TC sp sl r [0,1,2,3,4,5,6,7] [426] 20 461 [.obj 5,.obj 7,.int true bg] ⟨HS (cX lim st) D L Hi s xs [],[.k .none (iR (cX lim st) D L Hi s xs (wE bg) [iU (.obj 7) (.int true 0) (.int true bg) .none .none]),.l (.ret (.tup [.int true 2,.none])) (iR H1 D1 L1 .any s xs [] [W1])],[]⟩ (.tup [.int true 2,.none]) (HS H1 D1 L1 .any s xs []) [sl iP 8 (iR (cX lim st) D L Hi s xs (iK (.obj 9) bg) [iU (.obj 7) (.int true 0) (.int true bg) .none .none]) (Fl.ret (V.tup [V.int true 2,V.none])) (iR H1 D1 L1 .any s xs [] [W1]),sp 426 [.obj 9,.obj 7,.int false 0,.int true bg,.none,.none,.none] (iR (cX lim st) D L Hi s xs (wE bg) [.inst 436 []]) V.none (iR (cX lim st) D L Hi s xs (wE bg) [iU (.obj 7) (.int true 0) (.int true bg) .none .none])]:=by
 walk_at"k"
theorem Gw:TC sp sl r [0,1,2,3,4,5,6,7] [426] 20 461 [.obj 5,.obj 7,.int true bg] ⟨HS (cX lim st) D L Hi s xs [],[.k .none (iR (cX lim st) D L Hi s xs (wE bg) [iU (.obj 7) (.int true 0) (.int true bg) .none .none]),.l .next (iR H1 D1 L1 (.stk [] []) s xs (iK .none bg) [W1])],[]⟩ (.tup [.int false 1,.none]) (HS H1 D1 L1 (.stk [] []) s xs []) [sl iP 8 (iR (cX lim st) D L Hi s xs (iK (.obj 9) bg) [iU (.obj 7) (.int true 0) (.int true bg) .none .none]) Fl.next (iR H1 D1 L1 (.stk [] []) s xs (iK .none bg) [W1]),sp 426 [.obj 9,.obj 7,.int false 0,.int true bg,.none,.none,.none] (iR (cX lim st) D L Hi s xs (wE bg) [.inst 436 []]) V.none (iR (cX lim st) D L Hi s xs (wE bg) [iU (.obj 7) (.int true 0) (.int true bg) .none .none])]:=by
 walk_at"k"
theorem D4:Option.map (tr [0,1,2,3,4,5,6,7]) ((tP (Pg (fe [426]) sp sl r) (Rg (fe []) rsp rsl) 20).c 461 [.obj 5,.obj 7,.int true bg] ⟨HS (cX lim st) D L Hi s xs [],[.k .none (iR (cX lim st) D L Hi s xs (wE bg) [iU (.obj 7) (.int true 0) (.int true bg) .none .none]),.r (iR H1 D1 L1 .any s xs [] [W1])],[]⟩)=some (List.map some (HS H1 D1 L1 .any s xs []),[rsl iP 8 (iR (cX lim st) D L Hi s xs (iK (.obj 9) bg) [iU (.obj 7) (.int true 0) (.int true bg) .none .none]) (iR H1 D1 L1 .any s xs [] [W1]),sp 426 [.obj 9,.obj 7,.int false 0,.int true bg,.none,.none,.none] (iR (cX lim st) D L Hi s xs (wE bg) [.inst 436 []]) V.none (iR (cX lim st) D L Hi s xs (wE bg) [iU (.obj 7) (.int true 0) (.int true bg) .none .none])]):=by
 walk_at"k"
theorem GQ:TS sp sl r [0,1,2] [] 20 (d0 lj) 1 ⟨[R,.frame [(dq,.tup [nm,last]),(dj,.obj 2)],.list true xs],[],[]⟩ Fl.next [R,O.frame [(103,nm),(2,V.obj 2),(131,last)],O.list true (xs++[last])] [List.length xs<2^20]:=by
 walk_at"k"
theorem Gj:TC sp sl r [0,2] [] 20 524 [nm] ⟨[R],[.l .next [R,.frame [(dq,.none),(dj,.obj 2)],.list true xs]],[]⟩ (.obj 2) [R,.list true (List.reverse xs)] [List.length xs<2^20,sl lj 1 [R,O.frame [(103,nm),(2,V.obj 2)],O.list true []] Fl.next [R,O.frame [(103,V.none),(2,V.obj 2)],O.list true xs]]:=by
 walk_at"k"
theorem FX(sp:jA)(sl:jz)(r:Nat)(R D L:O)(lim st j:Int)(s:Str)(an:Bool)(xs:List V)(H1 D1 L1:O):TS sp sl r [0,1,2,3,4,5,6] [461,524] 30 (d0 fx) 6 ⟨kg R (cX lim st) D L xs [.frame (iA s an j)],[.k (.tup [.int true 1,.none]) (kg R H1 D1 L1 xs [.frame (iA s an j),tH s,.frame (xU s),.any]),.b false,.b false],[]⟩ Fl.next (kg R H1 D1 L1 xs [.frame (sX s an j (.int true 1) .none)]) [decide (1=2)=false,decide (1=0)=false,sp 461 [.obj 7,.obj 5,.int true j] (kg R (cX lim st) D L xs [.frame (iA s an j),.inst 513 [(75,.str true s),(67,.obj 1),(107,.obj 9)],.frame (xU s),.list true []]) (V.tup [V.int true 1,V.none]) (kg R H1 D1 L1 xs [.frame (iA s an j),.inst 513 [(75,.str true s),(67,.obj 1),(107,.obj 9)],.frame (xU s),.any])]:=by
 walk_at"k"
theorem GX(sp:jA)(sl:jz)(r:Nat)(R D L:O)(lim st j:Int)(s:Str)(an:Bool)(xs:List V)(H1 D1 L1:O):TS sp sl r [0,1,2,3,4,5,6] [461,524] 30 (d0 fx) 6 ⟨kg R (cX lim st) D L xs [.frame (iA s an j)],[.k (.tup [.int true 2,.none]) (kg R H1 D1 L1 xs [.frame (iA s an j),tH s,.frame (xU s),.any]),.b false,.b true],[]⟩ (Fl.ret .none) (kg R H1 D1 L1 xs [.frame (sX s an j (.int true 2) .none)]) [decide (2=2)=true,decide (2=0)=false,sp 461 [.obj 7,.obj 5,.int true j] (kg R (cX lim st) D L xs [.frame (iA s an j),.inst 513 [(75,.str true s),(67,.obj 1),(107,.obj 9)],.frame (xU s),.list true []]) (V.tup [V.int true 2,V.none]) (kg R H1 D1 L1 xs [.frame (iA s an j),.inst 513 [(75,.str true s),(67,.obj 1),(107,.obj 9)],.frame (xU s),.any])]:=by
 walk_at"k"
theorem Jb(sp:jA)(sl:jz)(r:Nat)(R D L:O)(lim st j:Int)(s:Str)(an:Bool)(xs:List V)(H1 D1 L1:O)(pc a nm mk:V)(ys:List V):TS sp sl r [0,1,2,3,4,5,6,11] [461,524] 30 (d0 fx) 6 ⟨kg R (cX lim st) D L xs [.frame (iA s an j)],[.k (.tup [.int true 0,.obj 10]) (kg R H1 D1 L1 xs [.frame (iA s an j),tH s,.frame (xU s),.any,iU (.obj 5) pc a nm mk]),.b true,.k (.obj 11) (kg R H1 D1 L1 xs [.frame (sX s an j (.int true 0) (.obj 10)),tH s,.frame (xU s),.any,iU (.obj 5) pc a nm mk]++[.list true ys])],[]⟩ (Fl.ret (.tup [.int true j,a,.obj 11])) (kg R H1 D1 L1 xs [.frame (sX s an j (.int true 0) (.obj 10)),.list true ys]) [sp 524 [nm] (kg R H1 D1 L1 xs [.frame (sX s an j (.int true 0) (.obj 10)),.inst 513 [(75,.str true s),(67,.obj 1),(107,.obj 9)],.frame (xU s),.any,.inst 436 [(11,.obj 5),(102,pc),(31,a),(103,nm),(104,mk),(105,.none)]]) (V.obj 11) (kg R H1 D1 L1 xs [.frame (sX s an j (.int true 0) (.obj 10)),.inst 513 [(75,.str true s),(67,.obj 1),(107,.obj 9)],.frame (xU s),.any,.inst 436 [(11,.obj 5),(102,pc),(31,a),(103,nm),(104,mk),(105,.none)],.list true ys]),decide (0=0)=true,sp 461 [.obj 7,.obj 5,.int true j] (kg R (cX lim st) D L xs [.frame (iA s an j),.inst 513 [(75,.str true s),(67,.obj 1),(107,.obj 9)],.frame (xU s),.list true []]) (V.tup [V.int true 0,V.obj 10]) (kg R H1 D1 L1 xs [.frame (iA s an j),.inst 513 [(75,.str true s),(67,.obj 1),(107,.obj 9)],.frame (xU s),.any,.inst 436 [(11,.obj 5),(102,pc),(31,a),(103,nm),(104,mk),(105,.none)]])]:=by
 walk_at"k"
theorem DF(sp:jA)(sl:jz)(r:Nat)(rsp:uS)(rsl:uZ)(R D L:O)(lim st j:Int)(s:Str)(an:Bool)(xs:List V)(H1 D1 L1:O):Option.map (tr [0,1,2,3,4,5,6]) ((tP (Pg (fe [461,524]) sp sl r) (Rg (fe [461]) rsp rsl) 30).ss (d0 fx) 6 ⟨kg R (cX lim st) D L xs [.frame (iA s an j)],[.r (kg R H1 D1 L1 xs [.frame (iA s an j),tH s,.frame (xU s),.any])],[]⟩)=some (List.map some (kg R H1 D1 L1 xs [.frame (iA s an j)]),[rsp 461 [.obj 7,.obj 5,.int true j] (kg R (cX lim st) D L xs [.frame (iA s an j),.inst 513 [(75,.str true s),(67,.obj 1),(107,.obj 9)],.frame (xU s),.list true []]) (kg R H1 D1 L1 xs [.frame (iA s an j),.inst 513 [(75,.str true s),(67,.obj 1),(107,.obj 9)],.frame (xU s),.any])]):=by
 walk_at"k"
theorem Mc(sp:jA)(sl:jz)(r:Nat)(R D L:O)(lim st:Int)(s:Str)(an:Bool)(xs:List V)(H1 D1 L1:O):TC sp sl r [0,1,2,3,4,5] [] 20 531 [.obj 5,.str true s,.bool an,.obj 1] ⟨kg R (cX lim st) D L xs [],[.l .next (kg R H1 D1 L1 xs [.frame (po s an)])],[]⟩ .none (kg R H1 D1 L1 xs []) [sl fx 6 (kg R (cX lim st) D L xs [.frame (po s an)]) Fl.next (kg R H1 D1 L1 xs [.frame (po s an)])]:=by
 walk_at"k"
theorem LX(sp:jA)(sl:jz)(r:Nat)(R D L:O)(lim st:Int)(s:Str)(an:Bool)(xs:List V)(H1 D1 L1:O):TC sp sl r [0,1,2,3,4,5] [] 20 531 [.obj 5,.str true s,.bool an,.obj 1] ⟨kg R (cX lim st) D L xs [],[.l (.ret .none) (kg R H1 D1 L1 xs [.frame []])],[]⟩ .none (kg R H1 D1 L1 xs []) [sl fx 6 (kg R (cX lim st) D L xs [.frame (po s an)]) (Fl.ret V.none) (kg R H1 D1 L1 xs [.frame []])]:=by
 walk_at"k"
theorem L3(sp:jA)(sl:jz)(r:Nat)(R D L:O)(lim st:Int)(s:Str)(an:Bool)(xs:List V)(H1 D1 L1:O)(j e:Int)(ys:List V):TC sp sl r [0,1,2,3,4,5,7] [] 20 531 [.obj 5,.str true s,.bool an,.obj 1] ⟨kg R (cX lim st) D L xs [],[.l (.ret (.tup [.int true j,.int true e,.obj 7])) (kg R H1 D1 L1 xs [.frame [],.list true ys])],[]⟩ (.tup [.int true j,.int true e,.obj 7]) (kg R H1 D1 L1 xs [.list true ys]) [sl fx 6 (kg R (cX lim st) D L xs [.frame (po s an)]) (Fl.ret (V.tup [V.int true j,V.int true e,V.obj 7])) (kg R H1 D1 L1 xs [.frame [],.list true ys])]:=by
 walk_at"k"
theorem Mg(sp:jA)(sl:jz)(r:Nat)(rsp:uS)(rsl:uZ)(R D L:O)(lim st:Int)(s:Str)(an:Bool)(xs:List V)(H1 D1 L1:O):Option.map (tr [0,1,2,3,4,5]) ((tP (Pg (fe []) sp sl r) (Rg (fe []) rsp rsl) 20).c 531 [.obj 5,.str true s,.bool an,.obj 1] ⟨kg R (cX lim st) D L xs [],[.r (kg R H1 D1 L1 xs [.frame []])],[]⟩)=some (List.map some (kg R H1 D1 L1 xs []),[rsl fx 6 (kg R (cX lim st) D L xs [.frame (po s an)]) (kg R H1 D1 L1 xs [.frame []])]):=by
 walk_at"k"
end
def wo(lim:Nat)(p:Option Wy)(w:Wy)(lg:List LE)(st:Nat)(r:iF)(G':List LE)(C':Nat):Prop:=
 lg.length<=st->st<=lim->(G'.length<=C'/\C'<=lim+1/\((∀w,r≠ .raised w)->C'<=lim))/\∀v,r= .met v->p=none/\(w.nm.length<=st->v.nm.length<=C')
section
variable{lim st C':Nat} {p:Option Wy} {w:Wy} {lg G':List LE} {r:iF}
theorem yo{x:Wy}:wo lim p w lg st (.raised x) lg (st+1):=λa b=>⟨⟨aG a,aC b,λz=>absurd rfl (z _)⟩,λv e=>by injection e⟩
theorem pn(A':¬lim<st+1)(h:G'.length<=lg.length+1)(m:∀v,r= .met v->p=none/\v=w):wo lim p w lg st r G' (st+1):=
 λa b=>⟨⟨ax h (aC a),aC b,λI=>bA A'⟩,λv e=>⟨(m v e).1,λz=>(m v e).2▸aG z⟩⟩
theorem Ho(A':¬lim<st+1){w1:Wy}{L':List LE}(h:L'.length<=lg.length+1)(n:w1.nm.length<=w.nm.length+1)(q:wo lim p w1 L' (st+1) r G' C'):wo lim p w lg st r G' C':=λa I=>
 have k:=q (ax h (aC a)) (bA A')
 ⟨k.1,λv e=>⟨(k.2 v e).1,λz=>(k.2 v e).2 (ax n (aC z))⟩⟩
theorem Ca(A':¬lim<st+1){x w2:Wy}{L':List LE}(h:L'.length<=lg.length+1)(q:wo lim (some x) w2 L' (st+1) r G' C'):wo lim p w lg st r G' C':=λa I=>
 have k:=q (ax h (aC a)) (bA A')
 ⟨k.1,λv e=>by have z:=(k.2 v e).1;injection z⟩
end
section
variable{os:List fz} {lim:Nat}
theorem E8{s:Str}{r:iF}{G':List LE}{C':Nat}:∀(n:Nat) {p:Option Wy} {w:Wy} {h:Hs} {lg:List LE} {st:Nat},fR s os lim n p w h lg st=some (r,G',C')->wo lim p w lg st r G' C':=by
 intro n
 induction n with
 |zero=>intro p w h lg st e;injection e
 |succ n ih=>
  intro p w h lg st e
  by_cases A':lim<st+1
  .have e:(if lim<st+1 then some (iF.raised (first p w),lg,st+1) else _)=some (r,G',C'):=e
   rw[if_pos A'] at e;injection e;exact yo
  .cases ho:nth os w.pc with
   |none=>rw[xD ho A'] at e;injection e
   |some o=>
    have gen:eJ o≠gC->eJ o≠eV->wo lim p w lg st r G' C':=λk1 k2=>by
     rw[jP ho k1 k2 A'] at e;cases hd:ka s o w h lg with
     |none=>rw[hd] at e;injection e
     |some q=>
      obtain⟨ok,w1,hh,L'⟩:=q;obtain⟨_,k,k3,_⟩:=ng hd;rw[hd] at e;cases ok with
      |true=>exact Ho A' k k3 (ih e)
      |false=>
       cases hh with
       |emp=>
        cases p with
        |none=>injection e;exact pn A' k λv z=>by injection z
        |some v=>injection e
       |opq=>injection e
       |top t=>
        cases t with
        |fen=>
         cases p with
         |none=>injection e;exact pn A' k λv z=>by injection z
         |some v=>injection e
        |suc w2=>exact Ca A' k (ih e)
    cases o with
    |done=>
     rw[qn ho A'] at e;cases p with
     |none=>injection e;exact pn A' (au _) λv z=>⟨rfl,by injection z with z;exact z.symm⟩
     |some v=>injection e
    |abort=>
     rw[nK ho A'] at e;cases p with
     |none=>injection e;exact pn A' (au _) λv z=>by injection z
     |some v=>injection e
    |one q=>exact gen (show mq≠gC by decide) (show mq≠eV by decide)
    |_=>exact gen () ()
def Jw(n:Nat):iF->V
 | .met _=>.tup [.int true 0,.obj n]
 | .over _=>.tup [.int true 2,.none]
 | .failed _=>.tup [.int true 1,.none]
 | .raised _=>.none
def Ea(o:Nat):iF->List O
 | .met w=>[fF 0 o w]
 |_=>[]
theorem ro{b:Bs}{st:Nat}{s:Str}{lg:List LE}{bg:Nat}(G:dI b):Ct b 70 426 [.obj 9,.obj 7,.int false 0,.int true (bg:Int),.none,.none,.none] (iR (dG lim st) (valO lg) (dz lg) (.stk [] []) s (os.map (ordV 0)) (wE (bg:Int)) [.inst 436 []]) .none
  (iR (dG lim st) (valO lg) (dz lg) (.stk [] []) s (os.map (ordV 0)) (wE (bg:Int)) [fF 0 7 ⟨0,bg,[],[]⟩]):=by
 refine fJ.more (c:=C b) (r:=10) (cr G _ (Gi ..) trivial ?_ .n) ();exact .runA (lim:=lim) (st:=st) () .z (.k rfl (.o (by rfl)) (.k rfl (.o (by rfl)) (.k rfl .i .z))) (.k (.x (.k (.o (by rfl)) (.k .i (.k .i (.k .n (.k .n (.k .n .z))))))) .z)
theorem nq{st:Nat}{s:Str}{lg:List LE}{f:Nat->Option Nat}{hi:O}{tl tl':List O}(h:∀i,i<8->f i=some i)(hh:RO f hi .any)(k:ROs f tl tl'):ROs f (cells lim st lg s hi os++tl) (cells lim st lg s .any os++tl'):=
 .k .ref (.k (.host (h _ ()) (h _ ()) (h _ ())) (.k (.valO lg) (.k (.l .z) (.k (.log lg) (.k (.mat (h _ ()) (h _ ())) (.k hh (.k (.ord (h _ ()) os) k)))))))
end
nonrec theorem KN{b:Bs}{lim st:Nat}{s:Str}{os:List fz}{lg:List LE}{n bg:Nat}{{x:iF×List LE×Nat}}(G:dI b)(hs:s.length<=8)(hlim:lim<1000)(hos:os.length<1000)(ht:∀i t,nth os i=some (.one (.txt t))->t.length<2^20)(hb:bg<=s.length)(hl:lg.length<=st)(A':st<1000)(hm:fR s os lim n none ⟨0,bg,[],[]⟩ .emp lg st=some x)(hr:∀w l t,x≠(.raised w,l,t)):
  Ct b 90 461 [.obj 5,.obj 7,.int true (bg:Int)] (cells lim st lg s (.stk [] []) os) (Jw 8 x.1) (cells lim x.2.2 x.2.1 s .any os++Ea 7 x.1):=by
 have inv:iu s ⟨0,bg,[],[]⟩ .emp lg st []:=⟨hb,hl,aJ _,A',λI=>rfl,λI z=>by injection z⟩
 have L:=xf (EI:=λI I I=>True) (bg:=(bg:Int)) (rz:=False) G hs hlim hos ht (λ⟨w,l,t,e⟩=>absurd e (hr w l t)) inv hm;obtain⟨r,G',C'⟩:=x;cases r with
 |met w=>exact dF G (r:=70) (n:=20) (l₀:=[426]) [0,1,2,3,4,5,6,7,9] (JS ..) ⟨dL.normal L,ro G,N4⟩ (nq () .a (.k (.way (by rfl) (by rfl) w) .z)) (.t (.k .i (.k (.o (by rfl)) .z)))
 |over w=>exact dF G (r:=70) (n:=20) (l₀:=[426]) [0,1,2,3,4,5,6,7] (Fw ..) ⟨dL.normal L,ro G,N4⟩ (nq () .a .z) (.t (.k .i (.k .n .z)))
 |failed w=>exact dF G (r:=70) (n:=20) (l₀:=[426]) [0,1,2,3,4,5,6,7] (Gw ..) ⟨dL.normal L,ro G,N4⟩ (nq () .stkAny .z) (.t (.k .i (.k .n .z)))
 |raised w=>exact absurd rfl (hr w G' C')
theorem kW{EI:eZ}{b:Bs}(G:dI b){r n f:Nat}{l₀ l₁:List Nat}{vs:List V}{os I' H':List O}{ch:List Ch}{cs:List Prop}(l:List Nat)
  (h:((tP (Pg (fe l₀) (Ct b r) (Lt b r) r) (Rg (fe l₁) (eU ((C b).at r) EI) (ma ((C b).at r) EI)) n).c f vs ⟨os,ch,[]⟩).map (tr l)=some (I'.map some,cs)) (hc:jx cs) (S:ROs (fb l) I' H')
  (h0:l₀.all (λf=>(oa.fn f).isSome)=true:=by decide) (h1:l₁.all (λf=>(oa.fn f).isSome)=true:=by decide) (nd:l.Nodup:=by decide) (keep:kj l 0 os.length:=by rfl):eU ((C b).at (n+r)) EI f vs os H':=
 C2 G.X G.F (dD G h0) (dD G h1) l h hc nd (fj keep) S
theorem Kp{b:Bs}{lim st:Nat}{s:Str}{os:List fz}{lg:List LE}{EI:eZ}{n bg:Nat}(G:dI b)(hs:s.length<=8)(hlim:lim<1000)(hos:os.length<1000)(ht:∀i t,nth os i=some (.one (.txt t))->t.length<2^20)(hb:bg<=s.length)(hl:lg.length<=st)(A':st<1000)(SX:ik b EI)
  {w:Wy} {G':List LE} {C':Nat} (hm:fR s os lim n none ⟨0,bg,[],[]⟩ .emp lg st=some (.raised w,G',C')):
  eU ((C b).at 90) EI 461 [.obj 5,.obj 7,.int true (bg:Int)] (cells lim st lg s (.stk [] []) os) (cells lim C' G' s .any os):=by
 have inv:iu s ⟨0,bg,[],[]⟩ .emp lg st []:=⟨hb,hl,aJ _,A',λI=>rfl,λI z=>by injection z⟩
 have L:=xf (EI:=EI) (bg:=(bg:Int)) (rz:=True) G hs hlim hos ht (λI=>⟨N4,SX⟩) inv hm;exact kW G (r:=70) (n:=20) (l₀:=[426]) (l₁:=[]) [0,1,2,3,4,5,6,7] (D4 ..) ⟨dL.raises L (λI I h=>h),ro G,N4⟩ (nq (tl:=[]) (tl':=[]) () .a .z)
/-! the names in a row -/
def iB(s:Str):V:=.tup [.obj 0,.str true s]
theorem RV.np{f:Nat->Option Nat}(h:f 0=some 0)(x:Str):RV f (iB x) (iB x):=.t (.k (.o h) (.k .s .z))
theorem RVs.nps{f:Nat->Option Nat}(h:f 0=some 0)(l:List Str):RVs f (l.map iB) (l.map iB):=.map' l λx I=>.np h x
nonrec theorem FT{b:Bs}{R:O}{ns:List Str}(G:dI b)(hR:∀f,RO f R R)(hn:ns.length<1000):Ct b 40 524 [nmR 0 ns] [R] (.obj 1) [R,.list true (ns.reverse.map iB)]:=by
 have L:dL ((C b).at (20+0)) (λI I I=>True) False lj 1 [R,.frame [(dq,nmR 0 ns),(dj,.obj 2)],.list true []] (λfl σ=>fl= .next/\σ=[R,.frame [(dq,.none),(dj,.obj 2)],.list true (ns.map iB)]) (λI=>False):=by
  show dL _ _ _ (.while (.cmp .IsNot (.loc dq) (.cst .none)) (d0 lj)) _ _ _ _;refine pG (c:=C b) (r:=0) (n:=20) (k:=3) (orc:=fe []) (orc':=fe []) G.X G.F (dD G ()) (dD G ()) (ao _)
   (λN σ=>∃d r,ns=d++r/\N=r.length/\σ=[R,.frame [(dq,nmR 0 r),(dj,.obj 2)],.list true (d.map iB)]) (λN σ hI=>?_) ns.length ⟨[],ns,rfl,rfl,rfl⟩
  obtain⟨d,r,e,rfl,rfl⟩:=hI;cases r with
  |nil=>
   rw[aQ] at e;subst e;exact⟨[],false,⟨_,[],[]⟩,rfl,(λI m=>by cases m),⟨some,dg.id ⟨rfl,rfl⟩⟩⟩
  |cons a r=>
   have hd:(d.map iB).length<2^20:=by
    rw[e,ai] at hn;rw[af];omega
   refine⟨[],true,⟨_,[],[]⟩,rfl,(λI m=>by cases m),eQ [0,1,2] (GQ ..) ⟨hd,N4⟩ (H':=[R,.frame [(dq,nmR 0 r),(dj,.obj 2)],.list true ((d++[a]).map iB)]) (.k (hR _) (.k (.f (.k rfl (.nmR (by rfl) _) (.k rfl (.o (by rfl)) .z))) (.k (.l ?_) .z))) ⟨r.length,aX _,d++[a],r,by rw[e,aw];rfl,rfl,rfl⟩⟩;rw[bn];exact(RVs.nps (by rfl) d).app' (.k (.np (by rfl) a) .z)
 have hl:(ns.map iB).length<2^20:=by rw[af];omega
 refine dF G (r:=20) (n:=20) (l₀:=[]) [0,2] (Gj ..) ⟨hl,dL.normal L,N4⟩ (.k (hR _) (.k (.l ?_) .z)) (.o rfl);rw[<-List.map_reverse];exact .nps (by rfl) _
/-! match_orders -/
inductive l7 where
 |nope (k:Nat)
 |met (b e:Nat) (ns:List Str)
 |raised
def BH(s:Str)(os:List fz)(lim:Nat):Nat->Nat->List LE->Nat->Option (l7×List LE×Nat)
 |0,_,lg,st=>some (.nope 0,lg,st)
 |n+1,j,lg,st=>match fR s os lim (lim+2) none ⟨0,j,[],[]⟩ .emp lg st with
  |none=>none
  |some (.failed _,lg,st)=>BH s os lim n (j+1) lg st
  |some (.over _,lg,st)=>some (.nope 1,lg,st)
  |some (.met w,lg,st)=>some (.met j w.at_ w.nm.reverse,lg,st)
  |some (.raised _,lg,st)=>some (.raised,lg,st)
def D0(n:Nat):l7->V
 | .met j e _=>.tup [.int true (j:Int),.int true (e:Int),.obj n]
 |_=>.none
def tc:l7->List O
 | .met _ _ ns=>[.list true (ns.map iB)]
 |_=>[]
def ir(lim st:Nat)(lg:List LE)(os:List fz)(tl:List O):List O:=kg cY (dG lim st) (valO lg) (dz lg) (os.map (ordV 0)) tl
theorem ROs.mo{lim st:Nat}{os:List fz}{lg:List LE}{f:Nat->Option Nat}{tl tl':List O}(h:∀i,i<6->f i=some i)(k:ROs f tl tl'):ROs f (ir lim st lg os tl) (ir lim st lg os tl'):=
 .k .ref (.k (.host (h _ ()) (h _ ()) (h _ ())) (.k (.valO lg) (.k (.l .z) (.k (.log lg) (.k (.ord (h _ ()) os) k)))))
theorem FrR.mo2{s:Str}{f:Nat->Option Nat}{an:Bool}{j:Int}{u v:V}(h:∀i,i<6->f i=some i):FrR f (sX s an j u v) (po s an):=
 .k rfl (.o (h _ ())) (.k rfl .s (.k rfl .b (.k rfl (.o (h _ ())) .z)))
def Kx(lim:Nat)(s:Str)(os:List fz)(an:Bool)(x:l7×List LE×Nat)(fl:Fl)(σ:List O):Prop:=match x with
 |(.nope 0,lg,st)=>fl= .next/\σ=ir lim st lg os [.frame (po s an)]
 |(.nope (_+1),lg,st)=>fl= .ret .none/\σ=ir lim st lg os [.frame []]
 |(.met j e ns,lg,st)=>fl= .ret (.tup [.int true (j:Int),.int true (e:Int),.obj 7])/\σ=ir lim st lg os [.frame [],.list true (ns.map iB)]
 |(.raised,_,_)=>False
def Lg(lim:Nat)(os:List fz)(x:l7×List LE×Nat)(σ:List O):Prop:=match x with
 |(.raised,lg,st)=>σ=ir lim st lg os [.frame []]
 |_=>False
def MO(lim:Nat)(s:Str)(os:List fz)(an:Bool)(x:l7×List LE×Nat)(n j:Nat)(σ:List O):Prop:=
 ∃lg st,σ=ir lim st lg os [.frame (po s an)]/\BH s os lim (n - j) j lg st=some x/\lg.length<=st/\st<=lim
def JV(s:Str)(an:Bool)(j:Int)(tl:List O):List O:=[.frame (iA s an j),tH s,.frame (xU s)]++tl
nonrec theorem zj{b:Bs}{lim st:Nat}{s:Str}{os:List fz}{lg:List LE}{n bg:Nat}{an:Bool}{{x:iF×List LE×Nat}}(G:dI b)(hs:s.length<=8)(hlim:lim<1000)(hos:os.length<1000)(ht:∀i t,nth os i=some (.one (.txt t))->t.length<2^20)(hb:bg<=s.length)(hl:lg.length<=st)(A':st<1000)(hm:fR s os lim n none ⟨0,bg,[],[]⟩ .emp lg st=some x)(hr:∀w l t,x≠(.raised w,l,t)):
  Ct b 90 461 [.obj 7,.obj 5,.int true (bg:Int)] (ir lim st lg os (JV s an bg [.list true []])) (Jw 10 x.1) (ir lim x.2.2 x.2.1 os (JV s an bg (.any::Ea 5 x.1))):=by
 have T:=KN (b:=b) G hs hlim hos ht hb hl A' hm hr;obtain⟨r,G',C'⟩:=x;have q:=fJ.frame (l:=[0,1,2,3,4,7,9,5]) (os:=ir lim st lg os (JV s an bg [.list true []])) (I':=[cY,dG lim st,valO lg,.list true [],dz lg,tH s,.list true [],nZ os]) (news:=[cY,dG lim C',valO G',.list true [],dz G',tH s,.any,nZ os]++Ea 5 r)
  (vs:=[.obj 7,.obj 5,.int true (bg:Int)]) (w:=Jw 10 r) rfl T rfl ()
  (.k .ref (.k (.host rfl rfl rfl) (.k (.valO lg) (.k (.l .z) (.k (.log lg) (.k (.x (.k .s (.k (.o rfl) (.k (.o rfl) .z)))) (.k (.toStk .z) (.k (.ord (by rfl) os) .z))))))))
  (.k (.o rfl) (.k (.o rfl) (.k .i .z)))
  (.k .ref (.k (.host rfl rfl rfl) (.k (.valO G') (.k (.l .z) (.k (.log G') (.k (.x (.k .s (.k (.o rfl) (.k (.o rfl) .z)))) (.k .a (.k (.ord (by rfl) os) ?_))))))))
  ?_
 .cases r<;>exact q
 .cases r with
  |met w=>exact .k (.way (by rfl) (by rfl) w) .z
  |_=>exact .z
 .cases r with
  |met w=>exact .t (.k .i (.k (.o (by rfl)) .z))
  |raised w=>exact .n
  |_=>exact .t (.k .i (.k .n .z))
theorem Je{b:Bs}{lim st:Nat}{s:Str}{os:List fz}{lg:List LE}{EI:eZ}{n bg:Nat}(G:dI b)(hs:s.length<=8)(hlim:lim<1000)(hos:os.length<1000)(ht:∀i t,nth os i=some (.one (.txt t))->t.length<2^20)(hb:bg<=s.length)(hl:lg.length<=st)(A':st<1000)(SX:ik b EI){an:Bool}
  {w:Wy} {G':List LE} {C':Nat} (hm:fR s os lim n none ⟨0,bg,[],[]⟩ .emp lg st=some (.raised w,G',C')):
  eU ((C b).at 90) EI 461 [.obj 7,.obj 5,.int true (bg:Int)] (ir lim st lg os (JV s an bg [.list true []])) (ir lim C' G' os (JV s an bg [.any])):=by
 have T:=Kp (b:=b) G hs hlim hos ht hb hl A' SX hm;have q:=eU.frame (l:=[0,1,2,3,4,7,9,5]) (os:=ir lim st lg os (JV s an bg [.list true []])) (I':=[cY,dG lim st,valO lg,.list true [],dz lg,tH s,.list true [],nZ os]) (news:=[cY,dG lim C',valO G',.list true [],dz G',tH s,.any,nZ os])
  (vs:=[.obj 7,.obj 5,.int true (bg:Int)]) rfl T rfl ()
  (.k .ref (.k (.host rfl rfl rfl) (.k (.valO lg) (.k (.l .z) (.k (.log lg) (.k (.x (.k .s (.k (.o rfl) (.k (.o rfl) .z)))) (.k (.toStk .z) (.k (.ord (by rfl) os) .z))))))))
  (.k (.o rfl) (.k (.o rfl) (.k .i .z)))
  (.k .ref (.k (.host rfl rfl rfl) (.k (.valO G') (.k (.l .z) (.k (.log G') (.k (.x (.k .s (.k (.o rfl) (.k (.o rfl) .z)))) (.k .a (.k (.ord (by rfl) os) .z))))))))
 exact q
theorem wh(s:Str)(os:List fz)(lim n j:Nat)(lg:List LE)(st:Nat):BH s os lim (n+1) j lg st=match fR s os lim (lim+2) none ⟨0,j,[],[]⟩ .emp lg st with
  |none=>none
  |some (.failed _,lg,st)=>BH s os lim n (j+1) lg st
  |some (.over _,lg,st)=>some (.nope 1,lg,st)
  |some (.met w,lg,st)=>some (.met j w.at_ w.nm.reverse,lg,st)
  |some (.raised _,lg,st)=>some (.raised,lg,st):=rfl
theorem Gp{b:Bs}(G:dI b){os0:List O}{ns:List Str}(hn:ns.length<1000)(h0:nth os0 0=some cY):Ct b 90 524 [nmR 0 ns] os0 (.obj os0.length) (fB os0 [0] [cY]++[.list true (ns.reverse.map iB)]):=by
 have T:=FT (b:=b) G (R:=cY) (λf=>.ref) hn;have q:=fJ.frame (l:=[0]) (os:=os0) (I':=[cY]) (news:=[cY,.list true (ns.reverse.map iB)]) (vs:=[nmR 0 ns]) (w:=.obj os0.length) rfl T (by simp [h0]) ()
  (.k .ref .z) (.k (.nmR (by rfl) ns) .z) (.k .ref (.k (.l (.nps (by rfl) _)) .z)) (.o (by unfold back;simp [nth]))
 exact q.more ()
nonrec theorem F5{b:Bs}{lim st:Nat}{s:Str}{os:List fz}{lg:List LE}{EI:eZ}{n j:Nat}{rz:Prop}{{an:Bool}}{{x:l7×List LE×Nat}}(G:dI b)(hs:s.length<=8)(hlim:lim<990)(hos:os.length<1000)(ht:∀i t,nth os i=some (.one (.txt t))->t.length<2^20)(SX:(∃l t,x=(l7.raised,l,t))->rz/\ik b EI)(hj:j<n)(hn:n<=s.length+1)(h1:BH s os lim (n - j) j lg st=some x)(hl:lg.length<=st)(A':st<=lim):
  iC (C b) 90 (fe [461,524]) (fe [461]) EI rz 30 7 (d0 fx) 6 (ir lim st lg os [.frame (iA s an (j:Int))]) (Kx lim s os an x) (Lg lim os x) (MO lim s os an x n (j+1)):=by
 rw[show n - j=(n - (j+1))+1 from by omega,wh] at h1;have hb:j<=s.length:=by omega
 have hst':st<1000:=by omega
 cases hm:fR s os lim (lim+2) none ⟨0,j,[],[]⟩ .emp lg st with
 |none=>rw[hm] at h1;injection h1
 |some q=>
  obtain⟨r,G',C'⟩:=q;rw[hm] at h1;obtain⟨bd,nmb⟩:=E8 _ hm hl A';cases r with
  |raised w=>
   have h1:=(ac h1).symm;subst h1;obtain⟨z1,z2⟩:=SX ⟨_,_,rfl⟩;have e:=DF (Ct b 90) (Lt b 90) 90 (eU ((C b).at 90) EI) (ma ((C b).at 90) EI) cY (valO lg) (dz lg) (lim:Int) (st:Int) (j:Int) s an (os.map (ordV 0)) (dG lim C') (valO G') (dz G');obtain⟨q,e1,e2⟩:=aq.mp e;obtain⟨e3,e4⟩:[0,1,2,3,4,5,6].map (nth q.os ·)=_/\q.cs=_:=by simpa only[bc] using e2
   refine .inr ⟨z1,_,q,e1,?_,_,dg.to (l:=[0,1,2,3,4,5,6]) (H':=ir lim C' G' os [.frame []]) rfl e3 (.mo () (.k (.f .z) .z))⟩;rw[e4];exact gj ⟨Je G hs (by omega) hos ht hb hl hst' z2 hm,N4⟩
  |failed w=>
   exact eQ [0,1,2,3,4,5,6] (FX ..) ⟨by decide,by decide,zj G hs (by omega) hos ht hb hl hst' hm (λI I I z=>by cases z),N4⟩
    (.mo () (.k (.f (.mo2 ())) .z)) ⟨G',C',rfl,h1,bd.1,bd.2.2 (λI z=>by injection z)⟩
  |over w=>
   have h1:=(ac h1).symm;subst h1;exact fT [0,1,2,3,4,5,6] (GX ..) ⟨by decide,by decide,zj G hs (by omega) hos ht hb hl hst' hm (λI I I z=>by cases z),N4⟩
    (.mo () (.k (.f .z) .z)) .n ⟨rfl,rfl⟩
  |met w=>
   have h1:=(ac h1).symm;subst h1;have hw:w.nm.length<1000:=by
    have:=(nmb w rfl).2 (aJ _);have:=bd.2.1;omega
   exact fT [0,1,2,3,4,5,6,11] (Jb ..)
    ⟨Gp G hw rfl,by decide,zj G hs (by omega) hos ht hb hl hst' hm (λI I I z=>by cases z),N4⟩
    (.mo () (.k (.f .z) (.k (.l (.nps (by rfl) _)) .z))) (.t (.k .i (.k .i (.k (.o (by rfl)) .z)))) ⟨rfl,rfl⟩
nonrec theorem AU{b:Bs}{lim st:Nat}{s:Str}{os:List fz}{lg:List LE}{EI:eZ}{rz:Prop}{{an:Bool}}{{x:l7×List LE×Nat}}(G:dI b)(hs:s.length<=8)(hlim:lim<990)(hos:os.length<1000)(ht:∀i t,nth os i=some (.one (.txt t))->t.length<2^20)(SX:(∃l t,x=(l7.raised,l,t))->rz/\ik b EI)(h1:BH s os lim (dK s an) 0 lg st=some x)(hl:lg.length<=st)(A':st<=lim):
  dL ((C b).at (30+90)) EI rz fx 6 (ir lim st lg os [.frame (po s an)]) (Kx lim s os an x) (Lg lim os x):=by
 have K:=dD G (l:=[461,524]) ();have hi:uB ((C b).at (30+90)) (.call (.glb gL) [(.ite (.loc cT) (.cst (.int 1)) (.bin .Add (.call (.glb fU) [(.loc cS)]) (.cst (.int 1))))]) 6 (ir lim st lg os [.frame (po s an)]) (.rng (dK s an)) (ir lim st lg os [.frame (po s an)]):=by
  cases an with
  |true=>exact iz (c:=C b) (st:=⟨ir lim st lg os [.frame (po s true)],[],[]⟩) (ch:=[]) (y:=false) (m:=1) G.X G.F K rfl (by rfl) (λI m=>by cases m) ()
  |false=>exact iz (c:=C b) (st:=⟨ir lim st lg os [.frame (po s false)],[],[s.length<2^20]⟩) (ch:=[]) (y:=true) (m:=s.length+1) G.X G.F K rfl (by rfl) (λI m=>by cases m with | head=>show s.length<2^20;omega | tail _ m=>cases m) (by omega)
 have hn:dK s an<=s.length+1:=by unfold dK;split<;>omega
 show dL _ _ _ (.for dB (.call (.glb gL) [(.ite (.loc cT) (.cst (.int 1)) (.bin .Add (.call (.glb fU) [(.loc cS)]) (.cst (.int 1))))]) (d0 fx)) _ _ _ _;refine rL (c:=C b) (k:=7) (N2:=.rng (dK s an)) G.X G.F K (dD G (l:=[461]) ()) (orc':=fe [461]) (ao _) hi (by intro z;injection z)
  (MO lim s os an x (dK s an)) ⟨lg,st,rfl,h1,hl,A'⟩ (λi xs z=>by injection z) (λj σ hI=>by show dK s an<2^60;omega) (λj σ v hI hv=>?_) (λσ hI=>?_)
 .obtain⟨lg,st,rfl,h1,hl,A'⟩:=hI
  have hv:(if j<dK s an then some (V.int true (j:Nat)) else none)=some v:=hv
  by_cases z:j<dK s an
  .rw[if_pos z] at hv
   cases hv;exact⟨⟨ir lim st lg os [.frame (iA s an (j:Int))],[],[]⟩,rfl,F5 G hs hlim hos ht SX z hn h1 hl A'⟩
  .rw[if_neg z] at hv;injection hv
 .obtain⟨lg,st,rfl,h1,hl,A'⟩:=hI
  have h1:BH s os lim (dK s an - dK s an) (dK s an) lg st=some x:=h1;rw[Nat.sub_self] at h1;have h1:=(ac h1).symm;subst h1;exact⟨some,dg.id ⟨rfl,rfl⟩⟩
theorem MB{b:Bs}{lim st:Nat}{s:Str}{os:List fz}{lg:List LE}{an:Bool}{x:l7×List LE×Nat}(G:dI b)(hs:s.length<=8)(hlim:lim<990)(hos:os.length<1000)(ht:∀i t,nth os i=some (.one (.txt t))->t.length<2^20)
  (h1:BH s os lim (dK s an) 0 lg st=some x) (hl:lg.length<=st) (A':st<=lim) (hr:∀l t,x≠(.raised,l,t)):
  Ct b 140 531 [.obj 5,.str true s,.bool an,.obj 1] (ir lim st lg os []) (D0 6 x.1) (ir lim x.2.2 x.2.1 os (tc x.1)):=by
 have L:=AU (EI:=λI I I=>True) (rz:=False) G hs hlim hos ht (λ⟨l,t,e⟩=>absurd e (hr l t)) h1 hl A';obtain⟨r,G',C'⟩:=x;cases r with
 |nope k=>
  match k,L with
  |0,L=>exact dF G (r:=120) (n:=20) (l₀:=[]) [0,1,2,3,4,5] (Mc ..) ⟨dL.normal L,N4⟩ (.mo () .z) .n
  |k+1,L=>exact dF G (r:=120) (n:=20) (l₀:=[]) [0,1,2,3,4,5] (LX ..) ⟨dL.normal L,N4⟩ (.mo () .z) .n
 |met j e ns=>exact dF G (r:=120) (n:=20) (l₀:=[]) [0,1,2,3,4,5,7] (L3 ..) ⟨dL.normal L,N4⟩ (.mo () (.k (.l (.nps (by rfl) _)) .z)) (.t (.k .i (.k .i (.k (.o (by rfl)) .z))))
 |raised=>exact absurd rfl (hr G' C')
theorem Mh{b:Bs}{lim st:Nat}{s:Str}{os:List fz}{lg:List LE}{EI:eZ}{an:Bool}(G:dI b)(hs:s.length<=8)(hlim:lim<990)(hos:os.length<1000)(ht:∀i t,nth os i=some (.one (.txt t))->t.length<2^20)(SX:ik b EI){G':List LE}{C':Nat}
  (h1:BH s os lim (dK s an) 0 lg st=some (.raised,G',C')) (hl:lg.length<=st) (A':st<=lim):
  eU ((C b).at 140) EI 531 [.obj 5,.str true s,.bool an,.obj 1] (ir lim st lg os []) (ir lim C' G' os []):=by
 have L:=AU (EI:=EI) (rz:=True) G hs hlim hos ht (λI=>⟨N4,SX⟩) h1 hl A';exact kW G (r:=120) (n:=20) (l₀:=[]) (l₁:=[]) [0,1,2,3,4,5] (Mg ..) ⟨dL.raises L (λI I h=>h),N4⟩ (.mo () .z)
end
section
set_option backward.match.sparseCases false
/-! nodes,rows,pieces -/
inductive Lf where
 |part (p:dZ)
 |suc
inductive Nd where
 |lf (l:Lf)
 |cat (a b:Nd)
set_option genInjectivity true in
inductive Pc where
 |txt (s:Str)
 |lf (l:Lf)
def jf(r:Nat):Lf->V
 | .part p=>db r p
 | .suc=>.tup [.str true gz]
def d6(r:Nat):Nd->V
 | .lf l=>jf r l
 | .cat a b=>.tup [.str true fQ,d6 r a,d6 r b]
def kX(r:Nat):Pc->V
 | .txt s=>.tup [.str true dM,.str true s]
 | .lf l=>jf r l
def eI:Nd->List Lf
 | .lf l=>[l]
 | .cat a b=>eI a++eI b
def iD:Lf->Option Str
 | .part (.mk .bare .ca)=>some sA
 | .part (.mk .bare .cb)=>some sB
 |_=>none
def L7(B':List Pc)(t:Str):Pc->List Pc
 | .txt u=>.txt (u++t)::B'
 | .lf l=>.txt t:: .lf l::B'
def GZ(t:Str):List Pc->List Pc
 |[]=>[.txt t]
 |q::r=>L7 r t q
def eY(B':List Pc)(l:Lf):List Pc:=match iD l with
 |none=>.lf l::B'
 |some t=>GZ t B'
theorem iw{B':List Pc}{l:Lf}(h:iD l=none):eY B' l= .lf l::B':=by
 show(match iD l with | none=>Pc.lf l::B' | some t=>GZ t B')=_;rw[h]
theorem gp{B':List Pc}{l:Lf}{t:Str}(h:iD l=some t):eY B' l=GZ t B':=by
 show(match iD l with | none=>Pc.lf l::B' | some t=>GZ t B')=_;rw[h]
def eS(ls:List Lf):List Pc:=(ls.foldl eY []).reverse
def ja:gw->fz
 | .ca=>.one (.txt sA)
 | .cb=>.one (.txt sB)
 | .any=>.one .any
 | .len1=>.one (.len 1)
 | .len0=>.one (.len 0)
 | .fail=>.fail
 | .fence=>.fence
 | .abort=>.abort
def eO:Pc->List fz
 | .txt s=>[.one (.txt s)]
 | .lf .suc=>[.succeed]
 | .lf (.part .cur)=>[.place]
 | .lf (.part (.mk .bare b))=>[ja b]
 | .lf (.part (.mk .now b))=>[.mark,ja b,.set]
 | .lf (.part (.mk .later b))=>[.mark,ja b,.name]
def eA(nd:Nd):List fz:=(eS (eI nd)).flatMap eO++[.done]
def eg(l:Nat):O:=.inst 82 [(dY,.obj l)]
def Au(n k:V):List (Nm×V):=[(cU,n),(du,k),(jL,.obj 3),(dj,.obj 2)]
def BY:List (Nm×V):=[(io,.obj 1),(dj,.obj 3)]
def tA(v:V):List (Nm×V):=[(io,.obj 1),(dj,.obj 3),(dU,v)]
def xT(nd:V):List (Nm×V):=[(cV,.obj 1),(cU,nd),(du,.str true fQ)]
def Ci(nd v:V):List (Nm×V):=[(cV,.obj 1),(cU,nd),(du,.str true fQ),(dU,v)]
def Hu:List (Nm×V):=[(dY,.obj 1),(dj,.obj 3)]
def IT(v:V):List (Nm×V):=[(dY,.obj 1),(dj,.obj 3),(dS,v)]
section
variable(sp:jA) (sl:jz) (r:Nat) (rsp:uS) (rsl:uZ) (R:O) (n:V) (P:O) (top:List V) (t u:Str) (os I':List V) (D L:O) (lim st:Int) (s:Str) (an:Bool) (nd v:V) (xs:List V) (a b:V) (kd:Str) (tl ys:List V) (H1 D1 L1:O) (j e:Int) (zs:List V)
theorem G4:TS sp sl r [0,1,2,3] [] 20 (d0 jX) 1 ⟨[R,.frame (Au n (.str false fQ)),.list true xs,.stk (.tup [.str true fQ,a,b]::top) []],[.b true],[]⟩ Fl.next [R,.frame [(0,n),(1,.str false fQ),(3,.obj 3),(2,.obj 2),(5,.tup [.str true fQ,a,b])],.list true xs,.stk (a::b::top) []] [(0:Nat)+List.length top+List.length [b,a]<2^20,decide (fQ=fQ)=true,(0:Nat)+List.length (V.tup [V.str true fQ,a,b]::top)<2^20]:=by
 walk_at"k"
theorem JH:TS sp sl r [0,1,2,3] [] 20 (d0 jX) 1 ⟨[R,.frame (Au n (.str false fQ)),.list true xs,.stk (.tup (.str true kd::tl)::top) []],[.b false],[]⟩ Fl.next [R,O.frame [(0,n),(1,V.str false fQ),(3,V.obj 3),(2,V.obj 2),(5,V.tup (V.str true kd::tl))],O.list true (xs++[V.tup (V.str true kd::tl)]),O.stk top []] [List.length xs<2^20,decide (kd=fQ)=false,(0:Nat)+List.length (V.tup (V.str true kd::tl)::top)<2^20]:=by
 walk_at"k"
theorem Nu(sp:jA)(sl:jz)(r:Nat)(R:O)(n:V)(top xs:List V):TC sp sl r [0,2] [] 20 23 [n,.str false fQ] ⟨[R],[.l .next [R,.frame (Au n (.str false fQ)),.list true xs,.stk [] []]],[]⟩ (.obj 2) [R,.list true xs] [sl jX 1 [R,O.frame (Au n (.str false fQ)),O.list true [],O.list true [n]] Fl.next [R,O.frame (Au n (.str false fQ)),O.list true xs,O.stk [] []]]:=by
 walk_at"k"
theorem Fu:TS sp sl r [0,1,2,3] [] 20 (d0 i4) 2 ⟨[R,P,.frame (tA (.tup (.str true kd::tl))),.stk top []],[.b false],[]⟩ Fl.next [R,P,.frame (tA (.tup (.str true kd::tl))),.stk (.tup (.str true kd::tl)::top) []] [(0:Nat)+List.length top<2^20,decide (kd=S [99,104,97,114,115])=false]:=by
 walk_at"k"
theorem B7:TS sp sl r [0,1,2,3] [] 20 (d0 i4) 2 ⟨[R,P,.frame (tA (.tup [.str true dM,.str true t])),.stk [] []],[.b true,.b false,.b false],[]⟩ Fl.next [R,P,.frame (tA (.tup [.str true dM,.str true t])),.stk [.tup [.str true dM,.str true t]] []] [(0:Nat)+(0:Nat)<2^20,decide (0<Int.ofNat ((0:Nat)+(0:Nat)))=false,(0:Nat)+(0:Nat)<2^62,decide (t=S [])=false,decide (dM=S [99,104,97,114,115])=true]:=by
 walk_at"k"
theorem JD:TS sp sl r [0,1,2,3] [] 20 (d0 i4) 2 ⟨[R,P,.frame (tA (.tup [.str true dM,.str true t])),.stk (.tup [.str true dM,.str true u]::top) []],[.b true,.b false,.b true,.b true],[]⟩ Fl.next [R,P,O.frame (tA (.tup [.str false (S [99,104,97,114,115]),.str true (u++t)])),O.stk (V.tup [V.str false (S [99,104,97,114,115]),V.str true (u++t)]::top) []] [(0:Nat)+List.length top<2^20,Str.length u+Str.length t<=sizeLine,(0:Nat)+List.length (V.tup [V.str true dM,V.str true u]::top)<2^20,decide (dM=S [99,104,97,114,115])=true,Int.ofNat ((0:Nat)+List.length (V.tup [V.str true dM,V.str true u]::top)) - 1=Int.ofNat ((0:Nat)+List.length top)/\Int.ofNat ((0:Nat)+List.length (V.tup [V.str true dM,V.str true u]::top)) - 1<2^62,(0:Nat)+List.length (V.tup [V.str true dM,V.str true u]::top)<2^62,decide (0<Int.ofNat ((0:Nat)+List.length (V.tup [V.str true dM,V.str true u]::top)))=true,(0:Nat)+List.length (V.tup [V.str true dM,V.str true u]::top)<2^62,decide (t=S [])=false,decide (dM=S [99,104,97,114,115])=true]:=by
 walk_at"k"
theorem IC:TS sp sl r [0,1,2,3] [] 20 (d0 i4) 2 ⟨[R,P,.frame (tA (.tup [.str true dM,.str true t])),.stk (.tup (.str true kd::tl)::top) []],[.b true,.b false,.b true,.b false],[]⟩ Fl.next [R,P,.frame (tA (.tup [.str true dM,.str true t])),.stk (.tup [.str true dM,.str true t]:: .tup (.str true kd::tl)::top) []] [(0:Nat)+List.length (V.tup (V.str true kd::tl)::top)<2^20,decide (kd=S [99,104,97,114,115])=false,Int.ofNat ((0:Nat)+List.length (V.tup (V.str true kd::tl)::top)) - 1=Int.ofNat ((0:Nat)+List.length top)/\Int.ofNat ((0:Nat)+List.length (V.tup (V.str true kd::tl)::top)) - 1<2^62,(0:Nat)+List.length (V.tup (V.str true kd::tl)::top)<2^62,decide (0<Int.ofNat ((0:Nat)+List.length (V.tup (V.str true kd::tl)::top)))=true,(0:Nat)+List.length (V.tup (V.str true kd::tl)::top)<2^62,decide (t=S [])=false,decide (dM=S [99,104,97,114,115])=true]:=by
 walk_at"k"
theorem Nj:TC sp sl r [0,1,3] [] 20 37 [.obj 1] ⟨[R,P],[.l .next [R,P,.frame BY,.stk top []]],[]⟩ (.obj 3) [R,P,.stk top []] [sl i4 2 [R,P,O.frame (BY),O.list true []] Fl.next [R,P,O.frame (BY),O.stk top []]]:=by
 walk_at"k"
theorem G0:TS sp sl r [0,1,2,3,4,5] [65] 20 (d0 pg) 3 ⟨[R,eg 2,.list true os,.frame (Ci nd v),.list true xs,.list true ys],[.k .none [R,eg 2,.list true I',.frame (Ci nd v),.list true xs,.list true ys]],[]⟩ Fl.next [R,eg 2,.list true I',.frame (Ci nd v),.list true xs,.list true ys] [sp 65 [.obj 1,v] [R,eg 2,O.list true os,O.frame (Ci nd v),O.list true xs,O.list true ys] V.none [R,eg 2,O.list true I',O.frame (Ci nd v),O.list true xs,O.list true ys]]:=by
 walk_at"k"
theorem Jx(sp:jA)(sl:jz)(r:Nat)(R:O)(os I':List V)(a b:V)(xs ys:List V):TC sp sl r [0,1,2] [] 20 65 [.obj 1,.tup [.str true fQ,a,b]] ⟨[R,eg 2,.list true os],[.b true,.l .next [R,eg 2,.list true I',.frame (xT (.tup [.str true fQ,a,b])),.list true xs,.list true ys]],[]⟩ .none [R,eg 2,.list true I'] [sl pg 3 [R,eg 2,O.list true os,O.frame (xT (.tup [.str true fQ,a,b]))] Fl.next [R,eg 2,O.list true I',O.frame (xT (.tup [.str true fQ,a,b])),O.list true xs,O.list true ys],decide (fQ=S [99,97,116])=true]:=by
 walk_at"k"
theorem KR:Option.map qa ((ev (Pg (fe [23,37]) sp sl r) 20).e (.call (.glb hV) [(.call (.glb oF) [(.loc cU),(.cst (.str (S [99,97,116])))])]) 3 ⟨[R,eg 2,.list true os,.frame (xT nd)],[.k (.obj 4) [R,eg 2,.list true os,.frame (xT nd),.list true xs],.k (.obj 5) [R,eg 2,.list true os,.frame (xT nd),.list true xs,.list true ys]],[]⟩)=some (V.obj 5,[R,eg 2,O.list true os,O.frame (xT nd),O.list true xs,O.list true ys],[sp 37 [.obj 4] [R,eg 2,O.list true os,O.frame (xT nd),O.list true xs] (V.obj 5) [R,eg 2,O.list true os,O.frame (xT nd),O.list true xs,O.list true ys],sp 23 [nd,.str false (S [99,97,116])] [R,eg 2,O.list true os,O.frame (xT nd)] (V.obj 4) [R,eg 2,O.list true os,O.frame (xT nd),O.list true xs]]):=by
 walk_at"k"
theorem MF:TS sp sl r [0,1,2,3] [] 20 (d0 oC) 2 ⟨[R,P,.frame (IT (.tup (.str true kd::tl))),.list true xs],[.b false],[]⟩ Fl.next [R,P,O.frame (IT (.tup (.str true kd::tl))),O.list true (xs++[V.tup (V.str true kd::tl)])] [List.length xs<2^20,gG kd [S [106,117,109,112],S [115,112,108,105,116]]=false]:=by
 walk_at"k"
theorem Nn:TC sp sl r [0,1,3] [] 20 93 [.obj 1] ⟨[R,P],[.l .next [R,P,.frame Hu,.list true xs]],[]⟩ (.obj 3) [R,P,.list true xs] [sl oC 2 [R,P,O.frame (Hu),O.list true []] Fl.next [R,P,O.frame (Hu),O.list true xs]]:=by
 walk_at"k"
theorem M8(sp:jA)(sl:jz)(r:Nat)(R:O)(nd:V)(os ys:List V):TC sp sl r [0,6] [65,93] 30 100 [nd] ⟨[R],[.k .none [R,.frame [(cU,nd),(mH,.obj 2)],eg 4,.frame [(cV,.obj 2)],.list true os],.k (.obj 6) [R,.frame [(cU,nd),(mH,.obj 2)],eg 4,.frame [(cV,.obj 2)],.list true (os++[.tup [.str false gC]]),.frame [(cV,.obj 2),(dS,.tup [.str false gC])],.list true ys]],[]⟩ (.obj 6) [R,.list true ys] [sp 93 [.obj 4] [R,O.frame [(0,nd),(36,V.obj 2)],eg 4,O.frame [(10,V.obj 2)],O.list true (os++[V.tup [V.str false (S [100,111,110,101])]]),O.frame [(10,V.obj 2),(12,V.tup [V.str false (S [100,111,110,101])])]] (V.obj 6) [R,O.frame [(0,nd),(36,V.obj 2)],eg 4,O.frame [(10,V.obj 2)],O.list true (os++[V.tup [V.str false gC]]),O.frame [(10,V.obj 2),(12,V.tup [V.str false gC])],O.list true ys],List.length (os++[V.tup [V.str false (S [100,111,110,101])]])<2^20,List.length os<2^20,sp 65 [.obj 2,nd] [R,O.frame [(0,nd),(36,V.obj 2)],eg 4,O.frame [(10,V.obj 2)],O.list true []] V.none [R,O.frame [(0,nd),(36,V.obj 2)],eg 4,O.frame [(10,V.obj 2)],O.list true os]]:=by
 walk_at"k"
theorem KZ:TC sp sl r [0,1,2,3,4] [100,531] 20 538 [nd,.str true s,.bool an,.obj 1] ⟨[R,cX lim st,D,.list true [],L],[.k (.obj 6) [R,cX lim st,D,.list true [],L,.frame [(cU,nd),(cS,.str true s),(cT,.bool an),(dt,.obj 1)],.list true ys],.k .none [R,H1,D1,.list true [],L1,.frame [(cU,nd),(cS,.str true s),(cT,.bool an),(dt,.obj 1)],.list true ys]],[]⟩ .none [R,H1,D1,.list true [],L1] [sp 531 [.obj 6,.str true s,.bool an,.obj 1] [R,cX lim st,D,O.list true [],L,O.frame [(0,nd),(75,V.str true s),(132,V.bool an),(67,V.obj 1)],O.list true ys] V.none [R,H1,D1,O.list true [],L1,O.frame [(0,nd),(75,V.str true s),(132,V.bool an),(67,V.obj 1)],O.list true ys],sp 100 [nd] [R,cX lim st,D,O.list true [],L,O.frame [(0,nd),(75,V.str true s),(132,V.bool an),(67,V.obj 1)]] (V.obj 6) [R,cX lim st,D,O.list true [],L,O.frame [(0,nd),(75,V.str true s),(132,V.bool an),(67,V.obj 1)],O.list true ys]]:=by
 walk_at"k"
theorem Kr:TC sp sl r [0,1,2,3,4,7] [100,531] 20 538 [nd,.str true s,.bool an,.obj 1] ⟨[R,cX lim st,D,.list true [],L],[.k (.obj 6) [R,cX lim st,D,.list true [],L,.frame [(cU,nd),(cS,.str true s),(cT,.bool an),(dt,.obj 1)],.list true ys],.k (.tup [.int true j,.int true e,.obj 7]) [R,H1,D1,.list true [],L1,.frame [(cU,nd),(cS,.str true s),(cT,.bool an),(dt,.obj 1)],.list true ys,.list true zs]],[]⟩ (.tup [.int true j,.int true e,.obj 7]) [R,H1,D1,.list true [],L1,.list true zs] [sp 531 [.obj 6,.str true s,.bool an,.obj 1] [R,cX lim st,D,O.list true [],L,O.frame [(0,nd),(75,V.str true s),(132,V.bool an),(67,V.obj 1)],O.list true ys] (V.tup [V.int true j,V.int true e,V.obj 7]) [R,H1,D1,O.list true [],L1,O.frame [(0,nd),(75,V.str true s),(132,V.bool an),(67,V.obj 1)],O.list true ys,O.list true zs],sp 100 [nd] [R,cX lim st,D,O.list true [],L,O.frame [(0,nd),(75,V.str true s),(132,V.bool an),(67,V.obj 1)]] (V.obj 6) [R,cX lim st,D,O.list true [],L,O.frame [(0,nd),(75,V.str true s),(132,V.bool an),(67,V.obj 1)],O.list true ys]]:=by
 walk_at"k"
theorem Kw:Option.map (tr [0,1,2,3,4]) ((tP (Pg (fe [100,531]) sp sl r) (Rg (fe [531]) rsp rsl) 20).c 538 [nd,.str true s,.bool an,.obj 1] ⟨[R,cX lim st,D,.list true [],L],[.k (.obj 6) [R,cX lim st,D,.list true [],L,.frame [(cU,nd),(cS,.str true s),(cT,.bool an),(dt,.obj 1)],.list true ys],.r [R,H1,D1,.list true [],L1,.frame [(cU,nd),(cS,.str true s),(cT,.bool an),(dt,.obj 1)],.list true ys]],[]⟩)=some (List.map some [R,H1,D1,O.list true [],L1],[rsp 531 [.obj 6,.str true s,.bool an,.obj 1] [R,cX lim st,D,O.list true [],L,O.frame [(0,nd),(75,V.str true s),(132,V.bool an),(67,V.obj 1)],O.list true ys] [R,H1,D1,O.list true [],L1,O.frame [(0,nd),(75,V.str true s),(132,V.bool an),(67,V.obj 1)],O.list true ys],sp 100 [nd] [R,cX lim st,D,O.list true [],L,O.frame [(0,nd),(75,V.str true s),(132,V.bool an),(67,V.obj 1)]] (V.obj 6) [R,cX lim st,D,O.list true [],L,O.frame [(0,nd),(75,V.str true s),(132,V.bool an),(67,V.obj 1)],O.list true ys]]):=by
 walk_at"k"
end
def Iu(l:Lf):Prop:=∃kd tl,jf 0 l= .tup (.str true kd::tl)/\kd≠fQ/\(iD l=none->kd≠dM)/\∀t,iD l=some t->kd=dM/\tl=[.str true t]/\t≠S []/\t.length=1
theorem xo{l:Lf}{kd:Str}{tl:List V}(e:jf 0 l= .tup (.str true kd::tl))(n:iD l=none)(h:kd≠fQ)(k:kd≠dM):Iu l:=⟨kd,tl,e,h,λI=>k,λt z=>by rw[n] at z;injection z⟩
theorem Lq{l:Lf}{t:Str}(e:jf 0 l= .tup [.str true dM,.str true t])(n:iD l=some t)(h:t≠S [])(k:t.length=1):Iu l:=
 ⟨dM,[.str true t],e,by decide,λz=>by rw[n] at z;injection z,λu z=>by rw[n] at z;injection z with z;exact⟨rfl,z▸rfl,z▸h,z▸k⟩⟩
theorem Ka(l:Lf):Iu l:=by
 cases l with
 |suc=>exact xo rfl rfl () ()
 |part p=>
  cases p with
  |cur=>exact xo rfl rfl () ()
  |mk m b=>
   cases m with
   |now=>exact xo rfl rfl () ()
   |later=>exact xo rfl rfl () ()
   |bare=>cases b<;>first | exact xo rfl rfl () () | exact Lq rfl rfl () ()
theorem oH(l:Lf):∃kd tl,jf 0 l= .tup (.str true kd::tl)/\kd≠fQ/\(iD l=none->kd≠dM)/\∀t,iD l=some t->kd=dM/\tl=[.str true t]/\t≠S []/\t.length=1:=Ka l
section
variable{f:Nat->Option Nat} {r r':Nat}
theorem RV.lf(h:f r=some r')(l:Lf):RV f (jf r l) (jf r' l):=by
 cases l with
 |part p=>exact .part h p
 |suc=>exact .t (.k .s .z)
theorem RV.nd{f:Nat->Option Nat}{r r':Nat}(h:f r=some r'):∀n:Nd,RV f (d6 r n) (d6 r' n)
 | .lf l=>.lf h l
 | .cat a b=>.t (.k .s (.k (RV.nd h a) (.k (RV.nd h b) .z)))
theorem RVs.lfs(h:f r=some r')(l:List Lf):RVs f (l.map (jf r)) (l.map (jf r')):=.map' l λx I=>.lf h x
theorem RV.pc(h:f r=some r')(p:Pc):RV f (kX r p) (kX r' p):=by
 cases p with
 |txt s=>exact .t (.k .s (.k .s .z))
 |lf l=>exact .lf h l
theorem RVs.pcs(h:f r=some r')(l:List Pc):RVs f (l.map (kX r)) (l.map (kX r')):=.map' l λx I=>.pc h x
theorem RVs.nds(h:f r=some r')(l:List Nd):RVs f (l.map (d6 r)) (l.map (d6 r')):=.map' l λx I=>.nd h x
theorem RVs.ords(h:f r=some r')(l:List fz):RVs f (l.map (ordV r)) (l.map (ordV r')):=.map' l λx I=>.ord h x
def gb:Nd->Nat
 | .lf _=>1
 | .cat a b=>gb a+gb b+1
def jU:List Nd->Nat
 |[]=>0
 |n::r=>gb n+jU r
theorem nv:∀n:Nd,(eI n).length<=gb n
 | .lf _=>ao _
 | .cat a b=>by
  have:=nv a;have:=nv b;show(eI a++eI b).length<=gb a+gb b+1;rw[ai];omega
theorem C5:∀l:List Nd,l.length<=jU l
 |[]=>ao _
 |n::r=>by
  have:=C5 r;have:1<=gb n:=by cases n<;>simp only[gb]<;>omega
  show r.length+1<=gb n+jU r;omega
end
nonrec theorem Gy{b:Bs}{R:O}{nd:Nd}(G:dI b)(hR:∀f,RO f R R)(hn:gb nd<1000):Ct b 40 23 [d6 0 nd,.str false fQ] [R] (.obj 1) [R,.list true ((eI nd).map (jf 0))]:=by
 have L:dL ((C b).at (20+0)) (λI I I=>True) False jX 1 [R,.frame (Au (d6 0 nd) (.str false fQ)),.list true [],.list true [d6 0 nd]] (λfl σ=>fl= .next/\σ=[R,.frame (Au (d6 0 nd) (.str false fQ)),.list true ((eI nd).map (jf 0)),.stk [] []]) (λI=>False):=by
  refine dL.entry (H':=[R,.frame (Au (d6 0 nd) (.str false fQ)),.list true [],.stk [d6 0 nd] []]) (dg.to (l:=[0,1,2,3]) rfl rfl
   (.k (hR _) (.k (.f (.k rfl (.nd (by rfl) nd) (.k rfl .s (.k rfl (.o (by rfl)) (.k rfl (.o (by rfl)) .z))))) (.k (.l .z) (.k (.toStk (.k (.nd (by rfl) nd) .z)) .z))))) ?_
  show dL _ _ _ (.while (.cmp .Gt (.call (.glb fU) [(.loc jL)]) (.cst (.int 0))) (d0 jX)) _ _ _ _;refine pG (c:=C b) (r:=0) (n:=20) (k:=4) (orc:=fe []) (orc':=fe []) G.X G.F (dD G ()) (dD G ()) (ao _)
   (λN σ=>∃w f,N=jU w/\σ=[R,.frame (Au (d6 0 nd) (.str false fQ)),.list true (f.map (jf 0)),.stk (w.map (d6 0)) []]/\f++w.flatMap eI=eI nd/\jU w<1000/\f.length+jU w<1000) (λN σ hI=>?_) (jU [nd]) ⟨[nd],[],rfl,rfl,by simp,by simpa[jU] using hn,by simpa[jU] using hn⟩
  obtain⟨w,f,rfl,rfl,h1,h2,h3⟩:=hI;cases w with
  |nil=>
   have h1:f++[]=eI nd:=h1;rw[aQ] at h1;subst h1;exact⟨[.b false],false,⟨_,[],[decide ((0:Int)<((0+0:Nat):Int))=false,0+0<2^62]⟩,rfl,gj (l:=[decide ((0:Int)<((0+0:Nat):Int))=false,0+0<2^62]) ⟨by decide,by decide,N4⟩,⟨some,dg.id ⟨rfl,rfl⟩⟩⟩
  |cons a w=>
   have sl:=C5 (a::w);have wl:(w.map (d6 0)).length+1<1000:=by rw[af];have:w.length+1<=jU (a::w):=sl;omega
   have fl:(f.map (jf 0)).length<2^20:=by rw[af];omega
   refine⟨[.b true],true,⟨_,[],[decide ((0:Int)<((0+((a::w).map (d6 0)).length:Nat):Int))=true,0+((a::w).map (d6 0)).length<2^62]⟩,rfl,gj (l:=[decide ((0:Int)<((0+((a::w).map (d6 0)).length:Nat):Int))=true,0+((a::w).map (d6 0)).length<2^62])
    ⟨av (by simp only[List.map_cons,bJ];omega),by simp only[List.map_cons,bJ];omega,N4⟩,?_⟩
   have frR:FrR (fb [0,1,2,3]) (Au (d6 0 nd) (.str false fQ)) (Au (d6 0 nd) (.str false fQ)):=.k rfl (.nd (by rfl) nd) (.k rfl .s (.k rfl (.o (by rfl)) (.k rfl (.o (by rfl)) .z)));cases a with
   |cat p q=>
    have h2:gb p+gb q+1+jU w<1000:=h2;refine eQ [0,1,2,3] (G4 ..) ⟨by show 0+(w.map (d6 0)).length+2<2^20;omega,by decide,by show 0+((w.map (d6 0)).length+1)<2^20;omega,N4⟩
     (H':=[R,.frame (Au (d6 0 nd) (.str false fQ)),.list true (f.map (jf 0)),.stk ((p::q::w).map (d6 0)) []]) (.k (hR _) (.k (.f (.k rfl (.nd (by rfl) nd) (.k rfl .s (.k rfl (.o (by rfl)) (.k rfl (.o (by rfl)) .z))))) (.k (.l (.lfs (by rfl) f)) (.k (.y (.nds (by rfl) (p::q::w))) .z))))
     ⟨jU (p::q::w),by show gb p+(gb q+jU w)<gb p+gb q+1+jU w;omega,p::q::w,f,rfl,rfl,by
      rw[<-h1];show f++(eI p++(eI q++w.flatMap eI))=f++((eI p++eI q)++w.flatMap eI);rw[aw],by show gb p+(gb q+jU w)<1000;omega,by
      have h3:f.length+(gb p+gb q+1+jU w)<1000:=h3;show f.length+(gb p+(gb q+jU w))<1000;omega⟩
   |lf l=>
    obtain⟨kd,tl,e,k1,_⟩:=oH l;have h2:1+jU w<1000:=h2;have h3:f.length+(1+jU w)<1000:=h3;have el:d6 0 (.lf l)= .tup (.str true kd::tl):=e;have er:jf 0 l= .tup (.str true kd::tl):=e;show iC _ _ _ _ _ _ _ _ _ _ [R,.frame (Au (d6 0 nd) (.str false fQ)),.list true (f.map (jf 0)),.stk (d6 0 (.lf l)::w.map (d6 0)) []] _ _ _;rw[el];refine eQ [0,1,2,3] (JH ..) ⟨fl,ag k1,by show 0+((w.map (d6 0)).length+1)<2^20;omega,N4⟩
     (H':=[R,.frame (Au (d6 0 nd) (.str false fQ)),.list true ((f++[l]).map (jf 0)),.stk (w.map (d6 0)) []]) (.k (hR _) (.k (.f (.k rfl (.nd (by rfl) nd) (.k rfl .s (.k rfl (.o (by rfl)) (.k rfl (.o (by rfl)) .z))))) (.k (.l ?_) (.k (.y (.nds (by rfl) w)) .z))))
     ⟨jU w,by show jU w<1+jU w;omega,w,f++[l],rfl,rfl,by rw[<-h1,aw];rfl,by omega,by rw[ai];show f.length+1+jU w<1000;omega⟩
    rw[bn,<-er];exact(RVs.lfs (by rfl) f).app' (.k (.lf (by rfl) l) .z)
 refine dF G (r:=20) (n:=20) (l₀:=[]) [0,2] (Nu _ _ _ R (d6 0 nd) [] ((eI nd).map (jf 0))) ⟨dL.normal L,N4⟩ (.k (hR _) (.k (.l (.lfs (by rfl) _)) .z)) (.o rfl)
theorem FrR.J{f:Nat->Option Nat}{v:V}(h1:f 1=some 1)(h3:f 3=some 3):FrR f (tA v) BY:=.k rfl (.o h1) (.k rfl (.o h3) .z)
nonrec theorem Ir{b:Bs}{R:O}{ls:List Lf}(G:dI b)(hR:∀f,RO f R R)(hn:ls.length<1000):Ct b 40 37 [.obj 1] [R,.list true (ls.map (jf 0))] (.obj 2) [R,.list true (ls.map (jf 0)),.list true ((eS ls).map (kX 0))]:=by
 have hP:∀{f:Nat->Option Nat},f 0=some 0->RO f (.list true (ls.map (jf 0))) (.list true (ls.map (jf 0))):=λh=>.l (.lfs h ls);have L:dL ((C b).at (20+0)) (λI I I=>True) False i4 2 [R,.list true (ls.map (jf 0)),.frame BY,.list true []] (λfl σ=>fl= .next/\σ=[R,.list true (ls.map (jf 0)),.frame BY,.stk ((ls.foldl eY []).map (kX 0)) []]) (λI=>False):=by
  refine dL.entry (H':=[R,.list true (ls.map (jf 0)),.frame BY,.stk [] []]) (dg.to (l:=[0,1,2,3]) rfl rfl
   (.k (hR _) (.k (hP (by rfl)) (.k (.f (.k rfl (.o (by rfl)) (.k rfl (.o (by rfl)) .z))) (.k (.toStk .z) .z))))) ?_
  show dL _ _ _ (.for dU (.loc io) (d0 i4)) _ _ _ _;refine rL (c:=C b) (r:=0) (n:=20) (k:=4) (N2:=.lst 1 (ls.map (jf 0))) (orc:=fe []) (orc':=fe []) G.X G.F (dD G ()) (dD G ()) (ao _)
   (kS G.X G.F (dD G (l:=[]) ()) (st:=⟨[R,.list true (ls.map (jf 0)),.frame BY,.stk [] []],[],[]⟩) (y:=true) rfl (λI m=>by cases m) rfl) (by intro z;cases z)
   (λj σ=>∃B',σ=[R,.list true (ls.map (jf 0)),.frame BY,.stk (B'.map (kX 0)) []]/\(ls.drop j).foldl eY B'=ls.foldl eY []/\B'.length<=j/\(∀t,.txt t∈B'->t.length<=j)/\∀l,.lf l∈B'->iD l=none) ⟨[],rfl,rfl,ao _,(λt m=>by cases m),λt m=>by cases m⟩
   (λi xs z=>by cases z;decide) (λj σ hI=>?_) (λj σ v hI hv=>?_) (λσ hI=>?_)
  .obtain⟨B',rfl,_⟩:=hI
   exact⟨true,rfl⟩
  .obtain⟨B',rfl,h1,h2,h3,h4⟩:=hI
   have hv:nth (ls.map (jf 0)) j=some v:=hv;rw[jE] at hv;obtain⟨l,el,rfl⟩:=aq.mp hv;have hj:j<ls.length:=fO el;rw[vT el] at h1;have h1:(ls.drop (j+1)).foldl eY (eY B' l)=ls.foldl eY []:=h1;have big:=dv;refine⟨⟨[R,.list true (ls.map (jf 0)),.frame (tA (jf 0 l)),.stk (B'.map (kX 0)) []],[],[]⟩,rfl,?_⟩;obtain⟨kd,tl,e,_,k2,k3⟩:=oH l;have al:(B'.map (kX 0)).length<=j:=by rw[af];exact h2
   cases tx:iD l with
   |none=>
    have st:=iw (B':=B') tx;rw[st] at h1;rw[e];refine eQ [0,1,2,3] (Fu ..) ⟨by show 0+_<_;omega,ag (k2 tx),N4⟩
     (H':=[R,.list true (ls.map (jf 0)),.frame BY,.stk ((.lf l::B').map (kX 0)) []]) (.k (hR _) (.k (hP (by rfl)) (.k (.f (.J (by rfl) (by rfl))) (.k (.y ?_) .z))))
     ⟨.lf l::B',rfl,h1,aC h2,(λt m=>by
      rcases aD.mp m with z | m
      .injection z
      .exact aG (h3 t m)),λl' m=>by
      rcases aD.mp m with z | m
      .cases z;exact tx
      .exact h4 l' m⟩
    rw[<-e];exact .k (.lf (by rfl) l) (.pcs (by rfl) B')
   |some t=>
    obtain⟨rfl,rfl,t0,t1⟩:=k3 t tx;rw[e];cases B' with
    |nil=>
     have st:eY [] l=[.txt t]:=gp tx;rw[st] at h1;exact eQ [0,1,2,3] (B7 ..) ⟨by decide,by decide,by decide,ag t0,by decide,N4⟩
      (H':=[R,.list true (ls.map (jf 0)),.frame BY,.stk ([Pc.txt t].map (kX 0)) []]) (.k (hR _) (.k (hP (by rfl)) (.k (.f (.J (by rfl) (by rfl))) (.k (.y (RVs.pcs (r:=0) (r':=0) (by rfl) [Pc.txt t])) .z))))
      ⟨[.txt t],rfl,h1,by simp,(λu m=>by
       have:u=t:=by simpa using m
       rw[this,t1];omega),λl' m=>by simp at m⟩
    |cons q B'=>
     have al:(B'.map (kX 0)).length+1<=j:=by simpa using al
     cases q with
     |txt u=>
      have st:eY (.txt u::B') l= .txt (u++t)::B':=gp tx;rw[st] at h1;have ul:=h3 u (.head _);have utl:(u++t).length=u.length+t.length:=by show(u.cps++t.cps).size=_;rw[cK];rfl
      exact eQ [0,1,2,3] (JD ..) ⟨by show 0+_<_;omega,by omega,by show 0+(_+1)<_;omega,by decide,⟨by show((0+((B'.map (kX 0)).length+1):Nat):Int) - 1=((0+(B'.map (kX 0)).length:Nat):Int);omega,by show((0+((B'.map (kX 0)).length+1):Nat):Int) - 1<2^62;omega⟩,by show 0+(_+1)<_;omega,av (by show(0:Int)<((0+((B'.map (kX 0)).length+1):Nat):Int);omega),by show 0+(_+1)<_;omega,ag t0,by decide,N4⟩
       (H':=[R,.list true (ls.map (jf 0)),.frame BY,.stk ((Pc.txt (u++t)::B').map (kX 0)) []]) (.k (hR _) (.k (hP (by rfl)) (.k (.f (.J (by rfl) (by rfl))) (.k (.y (.k (.t (.k .s (.k .s .z))) (.pcs (by rfl) B'))) .z))))
       ⟨.txt (u++t)::B',rfl,h1,aG h2,(λv m=>by
        rcases aD.mp m with z | m
        .cases z;rw[utl];omega
        .exact aG (h3 v (.tail _ m))),λl' m=>by
        rcases aD.mp m with z | m
        .injection z
        .exact h4 l' (.tail _ m)⟩
     |lf l2=>
      have st:eY (.lf l2::B') l= .txt t:: .lf l2::B':=gp tx;rw[st] at h1;obtain⟨kd2,tl2,e2,_,k5,_⟩:=oH l2;have hk:kd2≠dM:=k5 (h4 l2 (.head _));show iC _ _ _ _ _ _ _ _ _ _ [R,.list true (ls.map (jf 0)),.frame (tA (.tup [.str true dM,.str true t])),.stk (jf 0 l2::B'.map (kX 0)) []] _ _ _;rw[e2];refine eQ [0,1,2,3] (IC ..) ⟨by show 0+(_+1)<_;omega,ag hk,⟨by show((0+((B'.map (kX 0)).length+1):Nat):Int) - 1=((0+(B'.map (kX 0)).length:Nat):Int);omega,by show((0+((B'.map (kX 0)).length+1):Nat):Int) - 1<2^62;omega⟩,by show 0+(_+1)<_;omega,av (by show(0:Int)<((0+((B'.map (kX 0)).length+1):Nat):Int);omega),by show 0+(_+1)<_;omega,ag t0,by decide,N4⟩
       (H':=[R,.list true (ls.map (jf 0)),.frame BY,.stk ((Pc.txt t:: .lf l2::B').map (kX 0)) []]) (.k (hR _) (.k (hP (by rfl)) (.k (.f (.J (by rfl) (by rfl))) (.k (.y (.k (.t (.k .s (.k .s .z))) (.k ?_ (.pcs (by rfl) B')))) .z))))
       ⟨.txt t:: .lf l2::B',rfl,h1,aC h2,(λv m=>by
        rcases aD.mp m with z | m
        .cases z;omega
        .exact aG (h3 v m)),λl' m=>by
        rcases aD.mp m with z | m
        .injection z
        .exact h4 l' m⟩
      rw[<-e2];exact .lf (by rfl) l2
  .obtain⟨B',rfl,h1,h2,h3,h4⟩:=hI
   have:ls.drop (qX.lst 1 (ls.map (jf 0))).len=[]:=by
    show ls.drop (ls.map (jf 0)).length=[]
    rw[af,List.drop_length]
   rw[this] at h1;have h1:B'=ls.foldl eY []:=h1;refine⟨some,dg.id ?_⟩;rw[<-h1];exact⟨rfl,rfl⟩
 refine dF G (r:=20) (n:=20) (l₀:=[]) [0,1,3] (Nj ..) ⟨dL.normal L,N4⟩ (.k (hR _) (.k (hP (by rfl)) (.k (.unStk ?_) .z))) (.o rfl);rw[<-List.map_reverse];exact .pcs (by rfl) _
/-! putting a piece -/
def wY(b:gw):V:=.tup (.str false (qr b)::EA b)
def pcW:Pc->V
 | .txt s=>.tup [.str false dM,.str true s]
 | .lf .suc=>.tup [.str false gz]
 | .lf (.part .cur)=>.tup [.str false fH,.obj 0]
 | .lf (.part (.mk .bare b))=>wY b
 | .lf (.part (.mk .now b))=>.tup [.str false nB,wY b,.obj 0]
 | .lf (.part (.mk .later b))=>.tup [.str false hZ,wY b,.obj 0]
section
variable{f:Nat->Option Nat} {os:List fz} {b:Bs} {R:O}
theorem RVs.tl(b:gw):RVs f (EA b) (EA b):=by
 cases b<;>first | exact .z | exact .k .s .z | exact .k .i .z
theorem RV.pcW(h:f 0=some 0)(p:Pc):RV f (kX 0 p) (pcW p):=by
 cases p with
 |txt s=>exact .t (.k .s (.k .s .z))
 |lf l=>
  cases l with
  |suc=>exact .t (.k .s .z)
  |part p=>
   cases p with
   |cur=>exact .t (.k .s (.k (.o h) .z))
   |mk m b=>
    cases m with
    |bare=>exact .t (.k .s (.tl b))
    |now=>exact .t (.k .s (.k (.t (.k .s (.tl b))) (.k (.o h) .z)))
    |later=>exact .t (.k .s (.k (.t (.k .s (.tl b))) (.k (.o h) .z)))
theorem RV.ordWV{r r':Nat}(h:f r=some r')(o:fz):RV f (Internal.ordW r o) (Internal.ordV r' o):=.t (.k .s (.ordTl h o))
theorem RVs.more(h:f 0=some 0){l:List fz}{vs:List V}(k:RVs f vs (l.map (ordV 0))):RVs f (os.map (ordV 0)++vs) ((os++l).map (ordV 0)):=by
 rw[bn];exact(RVs.ords h os).app' k
def Jc:List V->List V->List V
 |os,[]=>os
 |os,v::l=>Jc (os++[v]) l
def I7:List V->List V->List Prop
 |_,[]=>[]
 |os,v::l=>I7 (os++[v]) l++[(os++[v]).length<2^20,os.length<2^20]
theorem Ll(sp:jA)(sl:jz)(r:Nat)(R:O)(os:List V)(p:Pc):TC sp sl r [0,1,2] [] 40 65 [.obj 1,pcW p] ⟨[R,eg 2,.list true os],[],[]⟩ .none [R,eg 2,.list true (Jc os ((eO p).map (ordW 0)))] (I7 os ((eO p).map (ordW 0))):=by
 cases p with
 |txt s=>walk_at"k"
 |lf l=>
  cases l with
  |suc=>walk_at"k"
  |part p=>
   cases p with
   |cur=>walk_at"k"
   |mk m b=>cases m<;>cases b<;>walk_at"k"
theorem AW:∀{l os:List V},os.length+l.length<2^20->jx (I7 os l)
 |[],_,_=>trivial
 |v::l,os,h=>by
  have e:(os++[v]).length=os.length+1:=ai;have h:os.length+(l.length+1)<2^20:=h;have k:(os++[v]).length+l.length<2^20:=by rw[e,bF];exact h
  have k1:=bw (aA _ _) k;exact kT (AW k) ⟨k1,bw (aA _ _) h,N4⟩
theorem wL:∀(l os:List V),Jc os l=os++l
 |[],os=>(aQ os).symm
 |v::l,os=>(wL l (os++[v])).trans (aw os [v] l)
theorem rH(p:Pc):(eO p).length<=3:=by
 cases p with
 |txt s=>show 1<=3;decide
 |lf l=>
  cases l with
  |suc=>show 1<=3;decide
  |part p=>
   cases p with
   |cur=>show 1<=3;decide
   |mk m b=>cases m<;>first | (show 1<=3;decide) | (show 3<=3;decide)
theorem Ko(G:dI b)(hR:∀f,RO f R R)(ho:os.length<900)(p:Pc):Ct b 40 65 [.obj 1,pcW p] [R,eg 2,.list true (os.map (ordV 0))] .none [R,eg 2,.list true ((os++eO p).map (ordV 0))]:=by
 refine cr G _ (Ll ..) (AW ?_) (.k (hR _) (.k (.x (.k (.o rfl) .z)) (.k (.l ?_) .z))) .n
 .rw[af,af]
  exact aH (Nat.add_lt_add_of_lt_of_le ho (rH p)) ()
 .rw[wL]
  exact .more (by rfl) (.map' (eO p) λo I=>.ordWV (by rfl) o)
theorem GN(G:dI b)(hR:∀f,RO f R R){nd:Nd}(hn:gb nd<1000){σ:List O}(h0:nth σ 0=some R):Ct b 40 23 [d6 0 nd,.str false fQ] σ (.obj σ.length) (fB σ [0] [R]++[.list true ((eI nd).map (jf 0))]):=
 fJ.frame (l:=[0]) (os:=σ) (I':=[R]) (news:=[R,.list true ((eI nd).map (jf 0))]) (vs:=[d6 0 nd,.str false fQ]) (w:=.obj σ.length) rfl (Gy G hR hn) (by simp [h0]) ()
  (.k (hR _) .z) (.k (.nd (by rfl) nd) (.k .s .z)) (.k (hR _) (.k (.l (.lfs (by rfl) _)) .z)) (.o (by unfold back;simp [nth]))
theorem JR(G:dI b)(hR:∀f,RO f R R){ls:List Lf}(hn:ls.length<1000){σ:List O}(h0:nth σ 0=some R)(h4:nth σ 4=some (.list true (ls.map (jf 0)))):Ct b 40 37 [.obj 4] σ (.obj σ.length) (fB σ [0,4] [R,.list true (ls.map (jf 0))]++[.list true ((eS ls).map (kX 0))]):=
 fJ.frame (l:=[0,4]) (os:=σ) (I':=[R,.list true (ls.map (jf 0))]) (news:=[R,.list true (ls.map (jf 0)),.list true ((eS ls).map (kX 0))]) (vs:=[.obj 4]) (w:=.obj σ.length) rfl (Ir G hR hn) (by simp [h0,h4]) ()
  (.k (hR _) (.k (.l (.lfs (by rfl) _)) .z)) (.k (.o rfl) .z) (.k (hR _) (.k (.l (.lfs (by rfl) _)) (.k (.l (.pcs (by rfl) _)) .z))) (.o (by unfold back;simp [nth]))
theorem Lx(G:dI b)(hR:∀f,RO f R R)(ho:os.length<900)(p:Pc)(tl:List O):Ct b 40 65 [.obj 1,kX 0 p] ([R,eg 2,.list true (os.map (ordV 0))]++tl) .none ([R,eg 2,.list true ((os++eO p).map (ordV 0))]++tl):=by
 have q:=fJ.frame (l:=[0,1,2]) (os:=[R,eg 2,.list true (os.map (ordV 0))]++tl) (I':=[R,eg 2,.list true (os.map (ordV 0))]) (news:=[R,eg 2,.list true ((os++eO p).map (ordV 0))]) (vs:=[.obj 1,kX 0 p]) (w:=.none) rfl (Ko G hR ho p) rfl ()
  (.k (hR _) (.k (.x (.k (.o rfl) .z)) (.k (.l (.ords (by rfl) _)) .z))) (.k (.o rfl) (.k (.pcW (by rfl) p) .z))
  (.k (hR _) (.k (.x (.k (.o rfl) .z)) (.k (.l (.ords (by rfl) _)) .z))) .n
 have q':Ct b 40 65 [.obj 1,kX 0 p] ([R,eg 2,.list true (os.map (ordV 0))]++tl) .none (([R,eg 2,.list true ((os++eO p).map (ordV 0))]++tl)++[]):=q;rw[aQ] at q';exact q'
theorem hH:∀l:List Pc,(l.flatMap eO).length<=3*l.length
 |[]=>ao _
 |p::l=>by
  have:=rH p;have:=hH l;show(eO p++l.flatMap eO).length<=3*(l.length+1);rw[ai];omega
theorem Cp(B':List Pc)(l:Lf):(eY B' l).length<=B'.length+1:=by
 cases tx:iD l with
 |none=>rw[iw tx];exact ao _
 |some t=>
  rw[gp tx];cases B' with
  |nil=>exact ao _
  |cons q r=>
   cases q with
   |txt u=>exact au _
   |lf l=>exact ao _
theorem uk:∀(ls:List Lf) (B':List Pc),(ls.foldl eY B').length<=B'.length+ls.length
 |[],_=>ao _
 |l::ls,B'=>by
  have:=uk ls (eY B' l);have:=Cp B' l;show(ls.foldl eY (eY B' l)).length<=B'.length+(ls.length+1);omega
theorem mT(ls:List Lf):(eS ls).length<=ls.length:=by
 have:=uk ls [];show(ls.foldl eY []).reverse.length<=_;rw[bL];simpa using this
theorem qj{α β:Type}(g:α->List β):∀{l:List α} {j:Nat} {x:α},nth l j=some x->(l.take (j+1)).flatMap g=(l.take j).flatMap g++g x
 |[],_,_,h=>by injection h
 |a::l,0,x,h=>by cases h;show g a++(l.take 0).flatMap g=[]++g a;simp
 |a::l,j+1,x,h=>by
  have:=qj g (l:=l) (j:=j) h;show g a++(l.take (j+1)).flatMap g=(g a++(l.take j).flatMap g)++g x;rw[this,aw]
end
nonrec theorem EN{b:Bs}{R:O}{os:List fz}{p q:Nd}(G:dI b)(hR:∀f,RO f R R)(ho:os.length<100)(hn:gb (.cat p q)<100):Ct b 80 65 [.obj 1,d6 0 (.cat p q)] [R,eg 2,.list true (os.map (ordV 0))] .none [R,eg 2,.list true ((os++(eS (eI (.cat p q))).flatMap eO).map (ordV 0))]:=by
 generalize hnd:Nd.cat p q=nd at hn;have hsz:=nv nd;have hjl:=mT (eI nd);have hol:=hH (eS (eI nd));have xr:∀{f:Nat->Option Nat},f 0=some 0->RO f (.list true ((eI nd).map (jf 0))) (.list true ((eI nd).map (jf 0))):=λh=>.l (.lfs h _);have yr:∀{f:Nat->Option Nat},f 0=some 0->RO f (.list true ((eS (eI nd)).map (kX 0))) (.list true ((eS (eI nd)).map (kX 0))):=λh=>.l (.pcs h _);have cr:∀{f:Nat->Option Nat},f 2=some 2->RO f (eg 2) (eg 2):=λh=>.x (.k (.o h) .z);have L:dL ((C b).at (20+40)) (λI I I=>True) False pg 3 [R,eg 2,.list true (os.map (ordV 0)),.frame (xT (d6 0 nd))]
   (λfl σ=>fl= .next/\σ=[R,eg 2,.list true ((os++(eS (eI nd)).flatMap eO).map (ordV 0)),.frame (xT (d6 0 nd)),.list true ((eI nd).map (jf 0)),.list true ((eS (eI nd)).map (kX 0))]) (λI=>False):=by
  have e:=KR (Ct b 40) (Lt b 40) 40 R (os.map (ordV 0)) (d6 0 nd) ((eI nd).map (jf 0)) ((eS (eI nd)).map (kX 0));obtain⟨⟨v,st⟩,e1,e2⟩:=aq.mp e;obtain⟨rfl,e3,e4⟩:v=V.obj 5/\st.os=_/\st.cs=_:=by simpa only[bc] using e2
  have hc:All st.cs:=by
   rw[e4];exact gj ⟨JR G hR (by omega) rfl rfl,GN G hR (by omega) rfl,N4⟩
  have hi:=kS G.X G.F (dD G (l:=[23,37]) ()) (r:=40) (n:=20) e1 hc (i:=5) (xs:=(eS (eI nd)).map (kX 0)) (y:=true) (by rw[e3];rfl);rw[e3] at hi;show dL _ _ _ (.for dU (.call (.glb hV) [(.call (.glb oF) [(.loc cU),(.cst (.str (S [99,97,116])))])]) (d0 pg)) _ _ _ _;refine rL (c:=C b) (r:=40) (n:=20) (k:=6) (orc:=fe [65]) (orc':=fe []) G.X G.F (dD G ()) (dD G ()) (show 4<=6 by decide) hi (by intro z;injection z)
   (λj σ=>σ=[R,eg 2,.list true ((os++((eS (eI nd)).take j).flatMap eO).map (ordV 0)),.frame (xT (d6 0 nd)),.list true ((eI nd).map (jf 0)),.list true ((eS (eI nd)).map (kX 0))]) (by rw[List.take_zero,List.flatMap_nil,aQ])
   (λi xs z=>by cases z;decide) (λj σ hI=>by subst hI;exact⟨true,rfl⟩) (λj σ v hI hv=>?_) (λσ hI=>?_)
  .subst hI
   have hv:nth ((eS (eI nd)).map (kX 0)) j=some v:=hv;rw[jE] at hv;obtain⟨pc,ep,rfl⟩:=aq.mp hv;have hlen:(os++((eS (eI nd)).take j).flatMap eO).length<900:=by
    have:=hH ((eS (eI nd)).take j);have:((eS (eI nd)).take j).length<=(eS (eI nd)).length:=by rw[cc];omega
    rw[ai];omega
   refine⟨⟨[R,eg 2,.list true ((os++((eS (eI nd)).take j).flatMap eO).map (ordV 0)),.frame (Ci (d6 0 nd) (kX 0 pc)),.list true ((eI nd).map (jf 0)),.list true ((eS (eI nd)).map (kX 0))],[],[]⟩,rfl,?_⟩;refine eQ [0,1,2,3,4,5] (G0 ..) ⟨Lx G hR hlen pc _,N4⟩
    (H':=[R,eg 2,.list true (((os++((eS (eI nd)).take j).flatMap eO)++eO pc).map (ordV 0)),.frame (xT (d6 0 nd)),.list true ((eI nd).map (jf 0)),.list true ((eS (eI nd)).map (kX 0))])
    (.k (hR _) (.k (cr rfl) (.k (.l (.ords (by rfl) _)) (.k (.f (.k rfl (.o (by rfl)) (.k rfl (.nd (by rfl) nd) (.k rfl .s .z)))) (.k (xr (by rfl)) (.k (yr (by rfl)) .z)))))) ?_
   rw[qj eO ep,aw]
  .have hI:σ=[R,eg 2,.list true ((os++((eS (eI nd)).take ((eS (eI nd)).map (kX 0)).length).flatMap eO).map (ordV 0)),.frame (xT (d6 0 nd)),.list true ((eI nd).map (jf 0)),.list true ((eS (eI nd)).map (kX 0))]:=hI
   rw[af,cG] at hI;exact⟨some,dg.id ⟨rfl,hI⟩⟩
 subst hnd;exact dF G (r:=60) (n:=20) (l₀:=[]) [0,1,2] (Jx ..) ⟨dL.normal L,by decide,N4⟩ (.k (hR _) (.k (cr rfl) (.k (.l (.ords (by rfl) _)) .z))) .n
nonrec theorem KG{b:Bs}{R:O}{os:List fz}(G:dI b)(hR:∀f,RO f R R)(ho:os.length<1000):Ct b 40 93 [.obj 1] [R,.list true (os.map (ordV 0))] (.obj 2) [R,.list true (os.map (ordV 0)),.list true (os.map (ordV 0))]:=by
 have pr:∀{f:Nat->Option Nat},f 0=some 0->RO f (.list true (os.map (ordV 0))) (.list true (os.map (ordV 0))):=λh=>.l (.ords h _);have L:dL ((C b).at (20+0)) (λI I I=>True) False oC 2 [R,.list true (os.map (ordV 0)),.frame Hu,.list true []] (λfl σ=>fl= .next/\σ=[R,.list true (os.map (ordV 0)),.frame Hu,.list true (os.map (ordV 0))]) (λI=>False):=by
  show dL _ _ _ (.for dS (.loc dY) (d0 oC)) _ _ _ _;refine rL (c:=C b) (r:=0) (n:=20) (k:=4) (N2:=.lst 1 (os.map (ordV 0))) (orc:=fe []) (orc':=fe []) G.X G.F (dD G ()) (dD G ()) (ao _)
   (kS G.X G.F (dD G (l:=[]) ()) (st:=⟨[R,.list true (os.map (ordV 0)),.frame Hu,.list true []],[],[]⟩) (y:=true) rfl (λI m=>by cases m) rfl) (by intro z;cases z)
   (λj σ=>σ=[R,.list true (os.map (ordV 0)),.frame Hu,.list true ((os.take j).map (ordV 0))]) (by rw[List.take_zero];rfl)
   (λi xs z=>by cases z;decide) (λj σ hI=>by subst hI;exact⟨true,rfl⟩) (λj σ v hI hv=>?_) (λσ hI=>?_)
  .subst hI
   have hv:nth (os.map (ordV 0)) j=some v:=hv;rw[jE] at hv;obtain⟨od,ep,rfl⟩:=aq.mp hv;have hl:((os.take j).map (ordV 0)).length<2^20:=by rw[af,cc];omega
   have hk:gG (eJ od) [S [106,117,109,112],S [115,112,108,105,116]]=false:=by cases od<;>first | decide | (show gG mq _=false;decide)
   refine⟨⟨[R,.list true (os.map (ordV 0)),.frame (IT (ordV 0 od)),.list true ((os.take j).map (ordV 0))],[],[]⟩,rfl,?_⟩;refine eQ [0,1,2,3] (MF ..) ⟨hl,hk,N4⟩ (H':=[R,.list true (os.map (ordV 0)),.frame Hu,.list true ((os.take j++[od]).map (ordV 0))])
    (.k (hR _) (.k (pr (by rfl)) (.k (.f (.k rfl (.o (by rfl)) (.k rfl (.o (by rfl)) .z))) (.k (.l (.more (by rfl) (.k (.ord (by rfl) od) .z))) .z)))) ?_
   have:=qj (λx:fz=>[x]) ep;have id:∀l:List fz,l.flatMap (λx=>[x])=l:=λl=>by induction l with | nil=>rfl | cons a l ih=>show a::l.flatMap _=_;rw[ih]
   rw[id,id] at this;rw[this]
  .have hI:σ=[R,.list true (os.map (ordV 0)),.frame Hu,.list true ((os.take (os.map (ordV 0)).length).map (ordV 0))]:=hI
   rw[af,cG] at hI;exact⟨some,dg.id ⟨rfl,hI⟩⟩
 exact dF G (r:=20) (n:=20) (l₀:=[]) [0,1,3] (Nn ..) ⟨dL.normal L,N4⟩ (.k (hR _) (.k (pr (by rfl)) (.k (pr (by rfl)) .z))) (.o rfl)
nonrec theorem Cm{b:Bs}{R:O}{p q:Nd}(G:dI b)(hR:∀f,RO f R R)(hn:gb (.cat p q)<100):Ct b 110 100 [d6 0 (.cat p q)] [R] (.obj 1) [R,.list true ((eA (.cat p q)).map (ordV 0))]:=by
 have hsz:=nv (.cat p q);have hjl:=mT (eI (.cat p q));have hol:=hH (eS (eI (.cat p q)));generalize hos:(eS (eI (.cat p q))).flatMap eO=os at hol;have hc:eA (.cat p q)=os++[fz.done]:=by rw[<-hos];rfl
 rw[hc];have T1:=EN (os:=[]) G hR () hn;rw[hos,cP] at T1;have q1:=fJ.frame (l:=[0,2,4]) (os:=[R,.frame [(cU,d6 0 (.cat p q)),(mH,.obj 2)],eg 4,.frame [(cV,.obj 2)],.list true []]) (I':=[R,eg 4,.list true []]) (news:=[R,eg 4,.list true (os.map (ordV 0))]) (vs:=[.obj 2,d6 0 (.cat p q)]) (w:=.none) rfl T1 rfl ()
  (.k (hR _) (.k (.x (.k (.o rfl) .z)) (.k (.l .z) .z))) (.k (.o rfl) (.k (.nd (by rfl) _) .z)) (.k (hR _) (.k (.x (.k (.o rfl) .z)) (.k (.l (.ords (by rfl) _)) .z))) .n
 have T2:=KG (os:=os++[fz.done]) G hR (by rw[ai];show os.length+1<1000;omega);have q2:=fJ.frame (l:=[0,4]) (os:=[R,.frame [(cU,d6 0 (.cat p q)),(mH,.obj 2)],eg 4,.frame [(cV,.obj 2)],.list true (os.map (ordV 0)++[.tup [.str false gC]]),.frame [(cV,.obj 2),(dS,.tup [.str false gC])]])
  (I':=[R,.list true (os.map (ordV 0)++[.tup [.str false gC]])]) (news:=[R,.list true (os.map (ordV 0)++[.tup [.str false gC]]),.list true ((os++[fz.done]).map (ordV 0))]) (vs:=[.obj 4]) (w:=.obj 6) rfl T2 rfl ()
  (.k (hR _) (.k (.l (.more (by rfl) (.k (.t (.k .s .z)) .z))) .z)) (.k (.o rfl) .z)
  (.k (hR _) (.k (.l (by rw[bn];exact(RVs.ords (by rfl) os).app' (.k (.t (.k .s .z)) .z))) (.k (.l (.ords (by rfl) _)) .z))) (.o rfl)
 have hl:(os.map (ordV 0)).length<2^20:=by rw[af];omega
 have hl2:(os.map (ordV 0)++[V.tup [.str false gC]]).length<2^20:=by rw[ai,af];show os.length+1<_;omega
 exact dF G (r:=80) (n:=30) (l₀:=[65,93]) [0,6] (M8 ..) ⟨q2.more (),hl2,hl,q1,N4⟩ (.k (hR _) (.k (.l (.ords (by rfl) _)) .z)) (.o rfl)
theorem rg{l:List Nat}{m k:Nat}(h:kj l 0 k):∀i,i<k->back l m i=some i:=λi hi=>by unfold back;rw[fj h i hi]
theorem uG:∀(ls:List Lf) (B':List Pc) (k:Nat),(∀t,Pc.txt t∈B'->t.length<=k)->∀t,Pc.txt t∈ls.foldl eY B'->t.length<=k+ls.length
 |[],_,_,h,t,m=>h t m
 |l::ls,B',k,h,t,m=>by
  have:=uG ls (eY B' l) (k+1) (λu m=>by
   cases tx:iD l with
   |none=>
    rw[iw tx] at m;rcases aD.mp m with z | m
    .injection z
    .exact aG (h u m)
   |some t1=>
    rw[gp tx] at m;obtain⟨_,_,_,_,_,k3⟩:=oH l;have t1l:=(k3 t1 tx).2.2.2;have one:Pc.txt u= .txt t1->u.length<=k+1:=λz=>by cases z;omega
    cases B' with
    |nil=>
     rcases aD.mp m with z | m
     .exact one z
     .cases m
    |cons q r=>
     cases q with
     |txt v=>
      rcases aD.mp m with z | m
      .cases z
       have:(v++t1).length=v.length+t1.length:=by show(v.cps++t1.cps).size=_;rw[cK];rfl
       rw[this,t1l];exact aC (h v (.head _))
      .exact aG (h u (.tail _ m))
     |lf l2=>
      rcases aD.mp m with z | m
      .exact one z
      .exact aG (h u m)) t m
  show t.length<=k+(ls.length+1);omega
theorem yv{p:Pc}{t:Str}(h:fz.one (.txt t)∈eO p):p= .txt t\/t.length=1:=by
 have bo:∀b:gw,fz.one (.txt t)=ja b->t.length=1:=λb e=>by cases b<;>cases e<;>rfl
 cases p with
 |txt s=>cases aj.mp h;exact .inl rfl
 |lf l=>
  refine .inr ?_;cases l with
  |suc=>cases aj.mp h
  |part p=>
   cases p with
   |cur=>cases aj.mp h
   |mk m b=>
    cases m with
    |bare=>exact bo b (aj.mp h)
    |now=>
     rcases aD.mp h with z | h
     .injection z
     .rcases aD.mp h with z | h
      .exact bo b z
      .cases aj.mp h
    |later=>
     rcases aD.mp h with z | h
     .injection z
     .rcases aD.mp h with z | h
      .exact bo b z
      .cases aj.mp h
theorem pK{nd:Nd}(hn:gb nd<100):(eA nd).length<1000:=by
 have hsz:=nv nd;have hjl:=mT (eI nd);have hol:=hH (eS (eI nd));show((eS (eI nd)).flatMap eO++[fz.done]).length<1000;rw[ai];show _+1<1000;omega
theorem oG{nd:Nd}(hn:gb nd<100)(i:Nat)(t:Str)(h:nth (eA nd) i=some (.one (.txt t))):t.length<2^20:=by
 have hsz:=nv nd;have m:=oo h;rcases bj.mp (show fz.one (.txt t)∈(eS (eI nd)).flatMap eO++[fz.done] from m) with m | m
 .obtain⟨p,mp,m⟩:=List.mem_flatMap.mp m
  rcases yv m with rfl | z
  .have:=uG (eI nd) [] 0 (λt m=>by cases m) t (List.mem_reverse.mp mp)
   omega
  .omega
 .cases aj.mp m
def Bz(lim st:Nat)(lg:List LE)(tl:List O):List O:=[cY,dG lim st,valO lg,.list true [],dz lg]++tl
section
variable{lim st:Nat} {lg:List LE}
theorem ROs.P{f:Nat->Option Nat}{tl tl':List O}(h:∀i,i<5->f i=some i)(k:ROs f tl tl'):ROs f (Bz lim st lg tl) (Bz lim st lg tl'):=
 .k .ref (.k (.host (h _ ()) (h _ ()) (h _ ())) (.k (.valO lg) (.k (.l .z) (.k (.log lg) k))))
def yt(nd:V)(s:Str)(an:Bool):O:=.frame [(cU,nd),(cS,.str true s),(cT,.bool an),(dt,.obj 1)]
theorem uA{b:Bs}{s:Str}{an:Bool}{p q:Nd}(G:dI b)(hn:gb (.cat p q)<100):Ct b 140 100 [d6 0 (.cat p q)] (Bz lim st lg [yt (d6 0 (.cat p q)) s an]) (.obj 6) (Bz lim st lg [yt (d6 0 (.cat p q)) s an,nZ (eA (.cat p q))]):=by
 have h:=fJ.frame (l:=[0]) (os:=Bz lim st lg [yt (d6 0 (.cat p q)) s an]) (I':=[cY]) (news:=[cY,.list true ((eA (.cat p q)).map (ordV 0))]) (vs:=[d6 0 (.cat p q)]) (w:=.obj 6) rfl (Cm (R:=cY) G (λf=>.ref) hn) rfl ()
  (.k .ref .z) (.k (.nd (by rfl) _) .z) (.k .ref (.k (.l (.ords (by rfl) _)) .z)) (.o rfl)
 exact fJ.more (c:=C b) h ()
theorem ROs.mo'{f:Nat->Option Nat}{os:List fz}{tl tl':List O}(h:∀i,i<5->f i=some i)(k:ROs f tl tl'):ROs f (ir lim st lg os tl) (ir lim st lg os tl'):=
 .k .ref (.k (.host (h _ ()) (h _ ()) (h _ ())) (.k (.valO lg) (.k (.l .z) (.k (.log lg) (.k (.ord (h _ ()) os) k)))))
end
nonrec theorem My{b:Bs}{lim st:Nat}{s:Str}{lg:List LE}{an:Bool}{p q:Nd}{{x:l7×List LE×Nat}}(G:dI b)(hs:s.length<=8)(hlim:lim<990)(hn:gb (.cat p q)<100)(h1:BH s (eA (.cat p q)) lim (dK s an) 0 lg st=some x)(hl:lg.length<=st)(A':st<=lim)(hr:∀l t,x≠(.raised,l,t)):
  Ct b 160 538 [d6 0 (.cat p q),.str true s,.bool an,.obj 1] (Bz lim st lg []) (D0 5 x.1) (Bz lim x.2.2 x.2.1 (tc x.1)):=by
 have T:=MB G hs hlim (pK hn) (oG hn) h1 hl A' hr;have c:=uA (s:=s) (an:=an) (lim:=lim) (st:=st) (lg:=lg) G hn;obtain⟨r,G',C'⟩:=x;have h:=fJ.frame (l:=[0,1,2,3,4,6]) (os:=Bz lim st lg [yt (d6 0 (.cat p q)) s an,nZ (eA (.cat p q))]) (I':=ir lim st lg (eA (.cat p q)) []) (news:=ir lim C' G' (eA (.cat p q)) (tc r)) (vs:=[.obj 6,.str true s,.bool an,.obj 1]) (w:=D0 7 r) rfl T rfl ()
  (.mo' () .z) (.k (.o rfl) (.k .s (.k .b (.k (.o rfl) .z)))) (.mo' (rg rfl) ?_) ?_
 .have h:Ct b 140 531 [.obj 6,.str true s,.bool an,.obj 1] (Bz lim st lg [yt (d6 0 (.cat p q)) s an,nZ (eA (.cat p q))]) (D0 7 r) (Bz lim C' G' (yt (d6 0 (.cat p q)) s an::nZ (eA (.cat p q))::tc r)):=h
  cases r with
  |nope k=>exact dF G (r:=140) (n:=20) (l₀:=[100,531]) [0,1,2,3,4] (KZ ..) ⟨h,c,N4⟩ (.P () .z) .n
  |met j e ns=>exact dF G (r:=140) (n:=20) (l₀:=[100,531]) [0,1,2,3,4,7] (Kr ..) ⟨h,c,N4⟩ (.P () (.k (.l (.nps (by rfl) _)) .z)) (.t (.k .i (.k .i (.k (.o (by rfl)) .z))))
  |raised=>exact absurd rfl (hr G' C')
 .cases r with
  |met j e ns=>exact .k (.l (.nps (by rfl) _)) .z
  |_=>exact .z
 .cases r with
  |met j e ns=>exact .t (.k .i (.k .i (.k (.o (by rfl)) .z)))
  |_=>exact .n
theorem Ms{b:Bs}{lim st:Nat}{s:Str}{lg:List LE}{EI:eZ}{an:Bool}{p q:Nd}(G:dI b)(hs:s.length<=8)(hlim:lim<990)(hn:gb (.cat p q)<100)(SX:ik b EI){G':List LE}{C':Nat}(h1:BH s (eA (.cat p q)) lim (dK s an) 0 lg st=some (.raised,G',C'))(hl:lg.length<=st)(A':st<=lim):
  eU ((C b).at 160) EI 538 [d6 0 (.cat p q),.str true s,.bool an,.obj 1] (Bz lim st lg []) (Bz lim C' G' []):=by
 have T:=Mh G hs hlim (pK hn) (oG hn) SX h1 hl A';have c:=uA (s:=s) (an:=an) (lim:=lim) (st:=st) (lg:=lg) G hn;have h:=eU.frame (l:=[0,1,2,3,4,6]) (os:=Bz lim st lg [yt (d6 0 (.cat p q)) s an,nZ (eA (.cat p q))]) (I':=ir lim st lg (eA (.cat p q)) []) (news:=ir lim C' G' (eA (.cat p q)) []) (vs:=[.obj 6,.str true s,.bool an,.obj 1]) rfl T rfl ()
  (.mo' () .z) (.k (.o rfl) (.k .s (.k .b (.k (.o rfl) .z)))) (.mo' (rg rfl) .z)
 exact kW G (r:=140) (n:=20) (l₀:=[100,531]) (l₁:=[531]) [0,1,2,3,4] (Kw ..) ⟨h,c,N4⟩ (.P () .z)
end
section
set_option backward.match.sparseCases false
/-! the plain trial,in plain Lean -/
def k9:Str:=S [101,110,100,32,110,111,119]
def kH:Str:=S [101,110,100,32,108,97,116,101,114]
def jB:Str:=S [108,111,115,116]
inductive jO where
 |nd (n:Nd)
 |endN (a:Nat)
 |endL (a:Nat)
structure Tw where
 ch:List jO
 at_:Nat
 ns:List Str
inductive tG where
 |way (t:Tw)
 |no
 |lost
abbrev eK:=List (Option Tw)
def oN(s:Str)(b:gw)(i:jO)(r:List jO)(a:Nat)(ns:List Str)(p:eK)(lg:List LE):tG×eK×List LE:=match b with
 | .fail=>(.no,p,lg)
 | .abort=>(.lost,p,lg)
 | .fence=>(.way ⟨r,a,ns⟩,none::p,lg)
 |b=>match eB s a (match b with | .ca=>.txt sA | .cb=>.txt sB | .len1=>.len 1 | .len0=>.len 0 | _=>.any) with
  |some e=>(.way ⟨r,e,ns⟩,p,lg)
  |none=>(.no,p,lg)
def adv(s:Str)(i:jO)(r:List jO)(a:Nat)(ns:List Str)(p:eK)(lg:List LE):tG×eK×List LE:=match i with
 | .nd (.cat x y)=>(.way ⟨.nd x:: .nd y::r,a,ns⟩,p,lg)
 | .nd (.lf .suc)=>(.way ⟨r,a,ns⟩,some ⟨i::r,a,ns⟩::p,lg)
 | .nd (.lf (.part .cur))=>(.way ⟨r,a,ns⟩,p,lg++[.at a])
 | .nd (.lf (.part (.mk .now b)))=>(.way ⟨.nd (.lf (.part (.mk .bare b))):: .endN a::r,a,ns⟩,p,lg)
 | .nd (.lf (.part (.mk .later b)))=>(.way ⟨.nd (.lf (.part (.mk .bare b))):: .endL a::r,a,ns⟩,p,lg)
 | .nd (.lf (.part (.mk .bare b)))=>oN s b i r a ns p lg
 | .endN m=>(.way ⟨r,a,ns⟩,p,lg++[.tx (cut s m a)])
 | .endL m=>(.way ⟨r,a,ns++[cut s m a]⟩,p,lg)
inductive zW where
 |raised (i:jO) (r:List jO)
 |brk (i:jO) (r:List jO)
 |lost
 |fin (a:Nat) (ns:List Str)
def ko(s:Str)(lim:Nat):Nat->List jO->Nat->List Str->eK->List LE->Nat->Option (zW×eK×List LE×Nat)
 |0,_,_,_,_,_,_=>none
 |_+1,[],a,ns,p,lg,st=>some (.fin a ns,p,lg,st)
 |n+1,i::r,a,ns,p,lg,st=>if lim<st+1 then some (.raised i r,p,lg,st+1) else
  match adv s i r a ns p lg with
  |(.no,p,lg)=>some (.brk i r,p,lg,st+1)
  |(.lost,p,lg)=>some (.lost,p,lg,st+1)
  |(.way t,p,lg)=>ko s lim n t.ch t.at_ t.ns p lg (st+1)
inductive yu where
 |raised
 |none
 |lost (k:Nat)
 |fin (a:Nat) (ns:List Str)
def ub(s:Str)(lim:Nat):Nat->eK->List LE->Nat->Option (yu×eK×List LE×Nat)
 |0,_,_,_=>none
 |_+1,[],lg,st=>some (.none,[],lg,st)
 |_+1,none::p,lg,st=>some (.lost 0,p,lg,st)
 |n+1,some t::p,lg,st=>match ko s lim (lim+2) t.ch t.at_ t.ns p lg st with
  |none=>none
  |some (.raised _ _,p,lg,st)=>some (.raised,p,lg,st)
  |some (.brk _ _,p,lg,st)=>ub s lim n p lg st
  |some (.lost,p,lg,st)=>some (.lost 1,p,lg,st)
  |some (.fin a ns,p,lg,st)=>some (.fin a ns,p,lg,st)
def KK:jO->V
 | .nd n=>d6 0 n
 | .endN a=>.tup [.str true k9,.obj 0,.int true (a:Int)]
 | .endL a=>.tup [.str true kH,.obj 0,.int true (a:Int)]
def rq:List jO->V
 |[]=>.none
 |i::l=>.tup [KK i,rq l]
def Fm(t:Tw):V:=.tup [rq t.ch,.int true (t.at_:Int),.tup (t.ns.map iB)]
def lZ:Option Tw->V
 |none=>.none
 |some t=>Fm t
def osT(H D L P:O)(tl:List O):List O:=[cY,H,D,.list true [],L,P]++tl
section
variable(sp:jA) (sl:jz) (r:Nat) (lim st a:Int) (D:O) (lg:List V) (s:Str) (ns top:List V) (u' x y:V) (m:Int) (t:Str) (n:Int)
theorem G1:TC sp sl r [0,1,2,3,4,5] [] 40 608 [.tup [.tup [.str false fQ,x,y],u'],.int true a,.tup ns,.str true s,.obj 5,.obj 1] ⟨osT (cX lim st) D (.list true lg) (.stk top []) [],[],[]⟩ (.tup [.tup [x,.tup [y,u']],.int true a,.tup ns]) (osT (cX lim st) D (.list true lg) (.stk top []) []) []:=by
 walk_at"k"
theorem GA:TC sp sl r [0,1,2,3,4,5] [] 40 608 [.tup [.tup [.str false nB,x,.obj 0],u'],.int true a,.tup ns,.str true s,.obj 5,.obj 1] ⟨osT (cX lim st) D (.list true lg) (.stk top []) [],[],[]⟩ (.tup [.tup [x,.tup [.tup [.str false (k9),.obj 0,.int true a],u']],.int true a,.tup ns]) (osT (cX lim st) D (.list true lg) (.stk top []) []) [Str.length (S [101,110,100,32])+Str.length nB<=sizeLine]:=by
 walk_at"k"
theorem Bm:TC sp sl r [0,1,2,3,4,5] [] 40 608 [.tup [.tup [.str false hZ,x,.obj 0],u'],.int true a,.tup ns,.str true s,.obj 5,.obj 1] ⟨osT (cX lim st) D (.list true lg) (.stk top []) [],[],[]⟩ (.tup [.tup [x,.tup [.tup [.str false (kH),.obj 0,.int true a],u']],.int true a,.tup ns]) (osT (cX lim st) D (.list true lg) (.stk top []) []) [Str.length (S [101,110,100,32])+Str.length hZ<=sizeLine]:=by
 walk_at"k"
theorem Ee:TC sp sl r [0,1,2,3,4,5] [] 40 608 [.tup [.tup [.str false kH,.obj 0,.int true m],u'],.int true a,.tup ns,.str true s,.obj 5,.obj 1] ⟨osT (cX lim st) D (.list true lg) (.stk top []) [],[],[]⟩ (V.tup [u',V.int true a,V.tup (ns++[V.tup [V.obj 0,V.str (true||true) (Txt.slice s (some m) (some a))]])]) (osT (cX lim st) D (.list true lg) (.stk top []) []) [List.length ns+List.length [V.tup [V.obj 0,V.str (true||true) (Txt.slice s (some m) (some a))]]<=sizeLine,Str.length s<=sizeLine,Str.length kH<=sizeLine]:=by
 walk_at"k"
theorem Bt:TC sp sl r [0,1,2,3,4,5] [] 40 608 [.tup [.tup [.str false k9,.obj 0,.int true m],u'],.int true a,.tup ns,.str true s,.obj 5,.obj 1] ⟨osT (cX lim st) (.dict []) (.list true lg) (.stk top []) [],[],[]⟩ (.tup [u',.int true a,.tup ns]) (osT (cX lim st) (.dict [sK]) (.list true (lg++[.tup [.str false sK,.str (true||true) (Txt.slice s (some m) (some a))]])) (.stk top []) []) [List.length lg<2^20,Str.length s<=sizeLine,Str.length k9<=sizeLine]:=by
 walk_at"k"
theorem DD:TC sp sl r [0,1,2,3,4,5] [] 40 608 [.tup [.tup [.str false fH,.obj 0],u'],.int true a,.tup ns,.str true s,.obj 5,.obj 1] ⟨osT (cX lim st) (.dict []) (.list true lg) (.stk top []) [],[],[]⟩ (.tup [u',.int true a,.tup ns]) (osT (cX lim st) (.dict [sK]) (.list true (lg++[.tup [.str false sK,.int true a]])) (.stk top []) []) [List.length lg<2^20,Str.length fH<=sizeLine]:=by
 walk_at"k"
theorem Cs:TC sp sl r [0,1,2,3,4,5] [] 40 608 [.tup [.tup [.str false k9,.obj 0,.int true m],u'],.int true a,.tup ns,.str true s,.obj 5,.obj 1] ⟨osT (cX lim st) (.dict [sK]) (.list true lg) (.stk top []) [],[],[]⟩ (.tup [u',.int true a,.tup ns]) (osT (cX lim st) (.dict [sK]) (.list true (lg++[.tup [.str false sK,.str (true||true) (Txt.slice s (some m) (some a))]])) (.stk top []) []) [List.length lg<2^20,sK=sK,Str.length s<=sizeLine,Str.length k9<=sizeLine]:=by
 walk_at"k"
theorem DA:TC sp sl r [0,1,2,3,4,5] [] 40 608 [.tup [.tup [.str false fH,.obj 0],u'],.int true a,.tup ns,.str true s,.obj 5,.obj 1] ⟨osT (cX lim st) (.dict [sK]) (.list true lg) (.stk top []) [],[],[]⟩ (.tup [u',.int true a,.tup ns]) (osT (cX lim st) (.dict [sK]) (.list true (lg++[.tup [.str false sK,.int true a]])) (.stk top []) []) [List.length lg<2^20,sK=sK,Str.length fH<=sizeLine]:=by
 walk_at"k"
theorem Bb:TC sp sl r [0,1,2,3,4,5] [] 40 608 [.tup [.tup [.str false eV],u'],.int true a,.tup ns,.str true s,.obj 5,.obj 1] ⟨osT (cX lim st) D (.list true lg) (.stk top []) [],[],[]⟩ (.str false (S [108,111,115,116])) (osT (cX lim st) D (.list true lg) (.stk top []) []) [Str.length eV<=sizeLine]:=by
 walk_at"k"
theorem Ds:TC sp sl r [0,1,2,3,4,5] [] 40 608 [.tup [.tup [.str false l8],u'],.int true a,.tup ns,.str true s,.obj 5,.obj 1] ⟨osT (cX lim st) D (.list true lg) (.stk top []) [],[],[]⟩ .none (osT (cX lim st) D (.list true lg) (.stk top []) []) [Str.length l8<=sizeLine]:=by
 walk_at"k"
theorem B9:TC sp sl r [0,1,2,3,4,5] [] 40 608 [.tup [.tup [.str false iq],u'],.int true a,.tup ns,.str true s,.obj 5,.obj 1] ⟨osT (cX lim st) D (.list true lg) (.stk top []) [],[],[]⟩ (.tup [u',.int true a,.tup ns]) (osT (cX lim st) D (.list true lg) (.stk (.none::top) []) []) [(0:Nat)+List.length top<2^20,Str.length iq<=sizeLine]:=by
 walk_at"k"
theorem xh:TC sp sl r [0,1,2,3,4,5] [] 40 608 [.tup [.tup [.str false gz],u'],.int true a,.tup ns,.str true s,.obj 5,.obj 1] ⟨osT (cX lim st) D (.list true lg) (.stk top []) [],[],[]⟩ (.tup [u',.int true a,.tup ns]) (osT (cX lim st) D (.list true lg) (.stk (.tup [.tup [.tup [.str false gz],u'],.int true a,.tup ns]::top) []) []) [(0:Nat)+List.length top<2^20,Str.length gz<=sizeLine]:=by
 walk_at"k"
theorem x9:TC sp sl r [0,1,2,3,4,5] [] 40 608 [.tup [.tup [.str false dM,.str true t],u'],.int true a,.tup ns,.str true s,.obj 5,.obj 1] ⟨osT (cX lim st) D (.list true lg) (.stk top []) [],[.b true],[]⟩ (.tup [u',.int true (a+Int.ofNat (Str.length t)),.tup ns]) (osT (cX lim st) D (.list true lg) (.stk top []) []) [decide (Txt.slice s (some a) (some (a+Int.ofNat (Str.length t)))=t)=true,Str.length s<=sizeLine,Str.length t<2^20,Str.length dM<=sizeLine]:=by
 walk_at"k"
theorem zr:TC sp sl r [0,1,2,3,4,5] [] 40 608 [.tup [.tup [.str false dM,.str true t],u'],.int true a,.tup ns,.str true s,.obj 5,.obj 1] ⟨osT (cX lim st) D (.list true lg) (.stk top []) [],[.b false],[]⟩ .none (osT (cX lim st) D (.list true lg) (.stk top []) []) [decide (Txt.slice s (some a) (some (a+Int.ofNat (Str.length t)))=t)=false,Str.length s<=sizeLine,Str.length t<2^20,Str.length dM<=sizeLine]:=by
 walk_at"k"
theorem zc:TC sp sl r [0,1,2,3,4,5] [] 40 608 [.tup [.tup [.str false jp,.int true n],u'],.int true a,.tup ns,.str true s,.obj 5,.obj 1] ⟨osT (cX lim st) D (.list true lg) (.stk top []) [],[.b true],[]⟩ (.tup [u',.int true (a+n),.tup ns]) (osT (cX lim st) D (.list true lg) (.stk top []) []) [decide (a+n<=Int.ofNat (Str.length s))=true,Str.length s<2^20,Str.length jp<=sizeLine]:=by
 walk_at"k"
theorem zC:TC sp sl r [0,1,2,3,4,5] [] 40 608 [.tup [.tup [.str false jp,.int true n],u'],.int true a,.tup ns,.str true s,.obj 5,.obj 1] ⟨osT (cX lim st) D (.list true lg) (.stk top []) [],[.b false],[]⟩ .none (osT (cX lim st) D (.list true lg) (.stk top []) []) [decide (a+n<=Int.ofNat (Str.length s))=false,Str.length s<2^20,Str.length jp<=sizeLine]:=by
 walk_at"k"
theorem zE:TC sp sl r [0,1,2,3,4,5] [] 40 608 [.tup [.tup [.str false kP,.str true lW],u'],.int true a,.tup ns,.str true s,.obj 5,.obj 1] ⟨osT (cX lim st) D (.list true lg) (.stk top []) [],[.b true,.b true],[]⟩ (.tup [u',.int true (a+1),.tup ns]) (osT (cX lim st) D (.list true lg) (.stk top []) []) [Txt.contains lW {cps:=#[Array.getD (Str.cps s) (Int.toNat a) 0]}=true,0<=a/\a<Int.ofNat (Str.length s)/\a<2^62,decide (a<Int.ofNat (Str.length s))=true,Str.length s<2^20,Str.length kP<=sizeLine]:=by
 walk_at"k"
theorem zo:TC sp sl r [0,1,2,3,4,5] [] 40 608 [.tup [.tup [.str false kP,.str true lW],u'],.int true a,.tup ns,.str true s,.obj 5,.obj 1] ⟨osT (cX lim st) D (.list true lg) (.stk top []) [],[.b true,.b false],[]⟩ .none (osT (cX lim st) D (.list true lg) (.stk top []) []) [Txt.contains lW {cps:=#[Array.getD (Str.cps s) (Int.toNat a) 0]}=false,0<=a/\a<Int.ofNat (Str.length s)/\a<2^62,decide (a<Int.ofNat (Str.length s))=true,Str.length s<2^20,Str.length kP<=sizeLine]:=by
 walk_at"k"
theorem xN:TC sp sl r [0,1,2,3,4,5] [] 40 608 [.tup [.tup [.str false kP,.str true lW],u'],.int true a,.tup ns,.str true s,.obj 5,.obj 1] ⟨osT (cX lim st) D (.list true lg) (.stk top []) [],[.b false],[]⟩ .none (osT (cX lim st) D (.list true lg) (.stk top []) []) [decide (a<Int.ofNat (Str.length s))=false,Str.length s<2^20,Str.length kP<=sizeLine]:=by
 walk_at"k"
end
/-! words written,not read -/
def M9:Lf->V
 | .suc=>.tup [.str false gz]
 | .part .cur=>.tup [.str false fH,.obj 0]
 | .part (.mk .bare b)=>wY b
 | .part (.mk .now b)=>.tup [.str false nB,lP b,.obj 0]
 | .part (.mk .later b)=>.tup [.str false hZ,lP b,.obj 0]
def MZ:jO->V
 | .nd (.lf l)=>M9 l
 | .nd (.cat x y)=>.tup [.str false fQ,d6 0 x,d6 0 y]
 | .endN a=>.tup [.str false k9,.obj 0,.int true (a:Int)]
 | .endL a=>.tup [.str false kH,.obj 0,.int true (a:Int)]
section
variable{f:Nat->Option Nat}
theorem RV.it(h:f 0=some 0)(i:jO):RV f (KK i) (KK i):=by
 cases i with
 |nd n=>exact .nd h n
 |endN a=>exact .t (.k .s (.k (.o h) (.k .i .z)))
 |endL a=>exact .t (.k .s (.k (.o h) (.k .i .z)))
theorem RV.toW(h:f 0=some 0)(i:jO):RV f (KK i) (MZ i):=by
 cases i with
 |nd n=>
  cases n with
  |cat x y=>exact .t (.k .s (.k (.nd h x) (.k (.nd h y) .z)))
  |lf l=>
   cases l with
   |suc=>exact .t (.k .s .z)
   |part p=>
    cases p with
    |cur=>exact .t (.k .s (.k (.o h) .z))
    |mk m b=>
     cases m with
     |bare=>exact .t (.k .s (.tl b))
     |now=>exact .t (.k .s (.k (.bare b) (.k (.o h) .z)))
     |later=>exact .t (.k .s (.k (.bare b) (.k (.o h) .z)))
 |endN a=>exact .t (.k .s (.k (.o h) (.k .i .z)))
 |endL a=>exact .t (.k .s (.k (.o h) (.k .i .z)))
theorem RV.ch{f:Nat->Option Nat}(h:f 0=some 0):∀l:List jO,RV f (rq l) (rq l)
 |[]=>.n
 |i::l=>.t (.k (.it h i) (.k (RV.ch h l) .z))
theorem RV.tw(h:f 0=some 0)(t:Tw):RV f (Fm t) (Fm t):=.t (.k (.ch h _) (.k .i (.k (.t (.nps h _)) .z)))
theorem RV.pl(h:f 0=some 0)(t:Option Tw):RV f (lZ t) (lZ t):=by
 cases t with
 |none=>exact .n
 |some t=>exact .tw h t
theorem RVs.pl(h:f 0=some 0)(p:eK):RVs f (p.map lZ) (p.map lZ):=.map' p λx I=>.pl h x
theorem ROs.osT{lim st:Nat}{lg:List LE}{top top':List V}{tl tl':List O}(h:∀i,i<6->f i=some i)(ht:RVs f top top')(k:ROs f tl tl'):
  ROs f (Internal.osT (dG lim st) (valO lg) (dz lg) (.stk top []) tl) (Internal.osT (dG lim st) (valO lg) (dz lg) (.stk top' []) tl'):=
 .k .ref (.k (.host (h _ ()) (h _ ()) (h _ ())) (.k (.valO lg) (.k (.l .z) (.k (.log lg) (.k (.y ht) k)))))
end
local macro_rules | `(tactic| walk_at "adv") => `(tactic| (repeat' first | exact trivial | refine And.intro ?_ ?_ | assumption | rfl | exact ax () ‹2 ^ 20 ≤ sizeLine› | omega))
def EE:tG->V
 | .way t=>Fm t
 | .no=>.none
 | .lost=>.str false jB
abbrev nN(lim st:Nat)(lg:List LE)(p:eK):List O:=osT (dG lim st) (valO lg) (dz lg) (.stk (p.map lZ) []) []
nonrec theorem Iy{b:Bs}{s:Str}{r:List jO}{{lim st:Nat}}{{lg:List LE}}{{p:eK}}{{a:Nat}}{{ns:List Str}}(G:dI b)(hs:s.length<=8)(ha:a<=s.length){q:HZ}{kd:Str}{v:V}(hq:[V.str false kd,v]=(match q with | .txt t=>[.str false dM,.str true t] | .len n=>[.str false jp,.int true (n:Int)] | .any=>[.str false kP,.str true lW]))(ht:∀t,q= .txt t->t.length<2^20):
  Ct b 40 608 [.tup [.tup [.str false kd,v],rq r],.int true (a:Int),.tup (ns.map iB),.str true s,.obj 5,.obj 1] (nN lim st lg p) (match eB s a q with | some e=>Fm ⟨r,e,ns⟩ | none=>.none) (nN lim st lg p):=by
 have hb:=dv;have hs':s.length<=sizeLine:=by omega
 have S:ROs (fb [0,1,2,3,4,5]) (nN lim st lg p) (nN lim st lg p):=.osT () (.pl (by rfl) p) .z;have W:∀e:Nat,RV (fb [0,1,2,3,4,5]) (.tup [rq r,.int true (e:Int),.tup (ns.map iB)]) (Fm ⟨r,e,ns⟩):=λe=>.t (.k (.ch (by rfl) r) (.k .i (.k (.t (.nps (by rfl) ns)) .z)));cases q with
 |txt t=>
  obtain⟨rfl,rfl⟩:kd=dM/\v= .str true t:=by simpa using hq
  have htl:=ht t rfl;show Ct _ _ _ _ _ (match(if cut s a (a+t.length)=t then some (a+t.length) else none) with | some e=>Fm ⟨r,e,ns⟩ | none=>.none) _
  by_cases c:cut s a (a+t.length)=t
  .rw[if_pos c]
   exact cr G _ (x9 ..) ⟨av c,hs',htl,ax () hb,N4⟩ S (W (a+t.length))
  .rw[if_neg c]
   exact cr G _ (zr ..) ⟨ag c,hs',htl,ax () hb,N4⟩ S .n
 |len n=>
  obtain⟨rfl,rfl⟩:kd=jp/\v= .int true (n:Int):=by simpa using hq
  show Ct _ _ _ _ _ (match(if a+n<=s.length then some (a+n) else none) with | some e=>Fm ⟨r,e,ns⟩ | none=>.none) _
  by_cases c:a+n<=s.length
  .rw[if_pos c]
   exact cr G _ (zc ..) ⟨av (by show(a:Int)+(n:Int)<=(s.length:Int);omega),by omega,ax () hb,N4⟩ S (W (a+n))
  .rw[if_neg c]
   exact cr G _ (zC ..) ⟨ag (by show¬(a:Int)+(n:Int)<=(s.length:Int);omega),by omega,ax () hb,N4⟩ S .n
 |any=>
  obtain⟨rfl,rfl⟩:kd=kP/\v= .str true lW:=by simpa using hq
  show Ct _ _ _ _ _ (match(if a<s.length then(match Txt.contains lW (gH s a) with | true=>some (a+1) | false=>none) else none) with | some e=>Fm ⟨r,e,ns⟩ | none=>.none) _
  by_cases c:a<s.length
  .rw[if_pos c]
   cases c2:Txt.contains lW (gH s a) with
   |true=>exact cr G _ (zE ..) ⟨by show Txt.contains lW (gH s a)=true;exact c2,⟨by omega,by show(a:Int)<(s.length:Int);omega,by omega⟩,av (by show(a:Int)<(s.length:Int);omega),by omega,ax () hb,N4⟩ S (W (a+1))
   |false=>exact cr G _ (zo ..) ⟨by show Txt.contains lW (gH s a)=false;exact c2,⟨by omega,by show(a:Int)<(s.length:Int);omega,by omega⟩,av (by show(a:Int)<(s.length:Int);omega),by omega,ax () hb,N4⟩ S .n
  .rw[if_neg c]
   exact cr G _ (xN ..) ⟨ag (by show¬(a:Int)<(s.length:Int);omega),by omega,ax () hb,N4⟩ S .n
nonrec theorem Be{b:Bs}{lim st:Nat}{s:Str}{lg:List LE}{p:eK}{a:Nat}{ns:List Str}{r:List jO}{i:jO}(G:dI b)(hs:s.length<=8)(ha:a<=s.length)(hp:p.length<2^19)(bb:gw){x:tG×eK×List LE}(hx:oN s bb i r a ns p lg=x):Ct b 40 608 [.tup [wY bb,rq r],.int true (a:Int),.tup (ns.map iB),.str true s,.obj 5,.obj 1] (nN lim st lg p) (EE x.1) (nN lim st x.2.2 x.2.1):=by
 have hb:=dv;have one:∀(q:HZ) (kd:Str) (v:V),([V.str false kd,v]=(match q with | .txt t=>[.str false dM,.str true t] | .len n=>[.str false jp,.int true (n:Int)] | .any=>[.str false kP,.str true lW]))->(∀t,q= .txt t->t.length<2^20)->
   x=(match eB s a q with | some e=>(.way ⟨r,e,ns⟩,p,lg) | none=>(.no,p,lg))->Ct b 40 608 [.tup [.tup [.str false kd,v],rq r],.int true (a:Int),.tup (ns.map iB),.str true s,.obj 5,.obj 1] (nN lim st lg p) (EE x.1) (nN lim st x.2.2 x.2.1):=λq kd v hq ht e=>by
  have T:=Iy (b:=b) (lim:=lim) (st:=st) (lg:=lg) (p:=p) (ns:=ns) (r:=r) G hs ha hq ht;cases c:eB s a q with
  |none=>rw[c] at e T;subst e;exact T
  |some e'=>rw[c] at e T;subst e;exact T
 have pl:(p.map lZ).length<2^19:=by rw[af];exact hp
 cases bb with
 |ca=>exact one (.txt sA) dM (.str true sA) rfl (λt e=>by cases e;decide) hx.symm
 |cb=>exact one (.txt sB) dM (.str true sB) rfl (λt e=>by cases e;decide) hx.symm
 |any=>exact one .any kP (.str true lW) rfl (λt e=>by injection e) hx.symm
 |len1=>exact one (.len 1) jp (.int true 1) rfl (λt e=>by injection e) hx.symm
 |len0=>exact one (.len 0) jp (.int true 0) rfl (λt e=>by injection e) hx.symm
 |fail=>
  subst hx;exact cr G _ (Ds ..) ⟨ax () hb,N4⟩ (.osT () (.pl (by rfl) p) .z) .n
 |abort=>
  subst hx;exact cr G _ (Bb ..) ⟨ax () hb,N4⟩ (.osT () (.pl (by rfl) p) .z) .s
 |fence=>
  subst hx;exact cr G _ (B9 ..) ⟨by omega,ax () hb,N4⟩ (.osT () (.pl (by rfl) (none::p)) .z) (.t (.k (.ch (by rfl) r) (.k .i (.k (.t (.nps (by rfl) ns)) .z))))
nonrec theorem Kb{b:Bs}{lim st:Nat}{s:Str}{p:eK}{a:Nat}{ns:List Str}{r:List jO}{{lg:List LE}}(G:dI b)(hs:s.length<=8)(ha:a<=s.length)(hl:lg.length<2^19)(hp:p.length<2^19)(hn:ns.length<2^19){i:jO}{x:tG×eK×List LE}(hx:adv s i r a ns p lg=x):
  Ct b 40 608 [.tup [MZ i,rq r],.int true (a:Int),.tup (ns.map iB),.str true s,.obj 5,.obj 1] (nN lim st lg p) (EE x.1) (nN lim st x.2.2 x.2.1):=by
 have hb:=dv;have hs':s.length<=sizeLine:=by omega
 have hl':(lg.map d4).length<2^20:=by rw[af];omega
 have pl:(p.map lZ).length<2^19:=by rw[af];exact hp
 have nl:(ns.map iB).length+1<=sizeLine:=by rw[af];omega
 have S0:ROs (fb [0,1,2,3,4,5]) (nN lim st lg p) (nN lim st lg p):=.osT () (.pl (by rfl) p) .z;have SL:∀(e:LE) (v:V),RV (fb [0,1,2,3,4,5]) v (d4 e)->ROs (fb [0,1,2,3,4,5]) [cY,dG lim st,.dict [sK],.list true [],.list true (lg.map d4++[v]),.stk (p.map lZ) []] (nN lim st (lg++[e]) p):=λe v k=>
  .k .ref (.k (.host rfl rfl rfl) (.k (by cases lg<;>exact .d) (.k (.l .z) (.k (.l (.snoc (.les _) k)) (.k (.y (.pl (by rfl) p)) .z)))))
 have NS:RV (fb [0,1,2,3,4,5]) (.tup (ns.map iB)) (.tup (ns.map iB)):=.t (.nps (by rfl) ns);have W:RV (fb [0,1,2,3,4,5]) (.tup [rq r,.int true (a:Int),.tup (ns.map iB)]) (Fm ⟨r,a,ns⟩):=.t (.k (.ch (by rfl) r) (.k .i (.k NS .z)));cases i with
 |endN m=>
  subst hx;cases lg with
  |nil=>exact cr G _ (Bt ..) (by walk_at "adv") (SL (LE.tx (cut s m a)) _ (.le (LE.tx (cut s m a)))) W
  |cons q lg=>exact cr G _ (Cs ..) (by walk_at "adv") (SL (LE.tx (cut s m a)) _ (.le (LE.tx (cut s m a)))) W
 |endL m=>
  subst hx;exact cr G _ (Ee ..) (by walk_at "adv") S0
   (.t (.k (.ch (by rfl) r) (.k .i (.k (.t (by rw[bn];exact(RVs.nps (by rfl) ns).app' (.k (.np (by rfl) (cut s m a)) .z))) .z))))
 |nd n=>
  cases n with
  |cat u v=>
   subst hx;exact cr G _ (G1 ..) trivial S0
    (.t (.k (.t (.k (.nd (by rfl) u) (.k (.t (.k (.nd (by rfl) v) (.k (.ch (by rfl) r) .z))) .z))) (.k .i (.k NS .z))))
  |lf l=>
   cases l with
   |suc=>
    subst hx;exact cr G _ (xh ..) (by walk_at "adv")
     (.osT (lim:=lim) (st:=st) (top':=(some ⟨.nd (.lf .suc)::r,a,ns⟩::p).map lZ) () (.k (.t (.k (.t (.k (.t (.k .s .z)) (.k (.ch (by rfl) r) .z))) (.k .i (.k NS .z)))) (.pl (by rfl) p)) .z) W
   |part q=>
    cases q with
    |cur=>
     subst hx;cases lg with
     |nil=>exact cr G _ (DD ..) (by walk_at "adv") (SL (LE.at a) _ (.le (LE.at a))) W
     |cons q lg=>exact cr G _ (DA ..) (by walk_at "adv") (SL (LE.at a) _ (.le (LE.at a))) W
    |mk m bb=>
     cases m with
     |bare=>exact Be (i:=.nd (.lf (.part (.mk .bare bb)))) G hs ha hp bb hx
     |now=>
      subst hx;exact cr G _ (GA ..) (by walk_at "adv") S0
       (.t (.k (.t (.k (.bare bb) (.k (.t (.k (.t (.k .s (.k (.o (by rfl)) (.k .i .z)))) (.k (.ch (by rfl) r) .z))) .z))) (.k .i (.k NS .z))))
     |later=>
      subst hx;exact cr G _ (Bm ..) (by walk_at "adv") S0
       (.t (.k (.t (.k (.bare bb) (.k (.t (.k (.t (.k .s (.k (.o (by rfl)) (.k .i .z)))) (.k (.ch (by rfl) r) .z))) .z))) (.k .i (.k NS .z))))
end
section
set_option backward.match.sparseCases false
def iL(nd:V)(s:Str)(bg:Int)(tl:List (Nm×V)):List (Nm×V):=[(cU,nd),(cS,.str true s),(dB,.int true bg),(dt,.obj 1),(gh,.obj 6)]++tl
def g0(c a n:V):List (Nm×V):=[(fG,c),(dW,a),(dq,n)]
def gc(H D L:O)(fr:List (Nm×V))(P:O)(tl:List O):List O:=[cY,H,D,.list true [],L,.frame fr,P]++tl
def iN(nd:V)(s:Str)(an:Bool)(tl:List (Nm×V)):List (Nm×V):=[(cU,nd),(cS,.str true s),(cT,.bool an),(dt,.obj 1)]++tl
def k8(H D L:O)(tl:List O):List O:=[cY,H,D,.list true [],L]++tl
section
variable(sp:jA) (sl:jz) (r:Nat) (rsp:uS) (rsl:uZ) (lim st bg j:Int) (D L:O) (s:Str) (an:Bool) (nd:V) (top:List V) (H1 D1 L1:O)
theorem Jl(sp:jA)(sl:jz)(r:Nat)(lim st bg:Int)(D L P:O)(s:Str)(nd c n:V)(a:V)(H1 D1 L1 P1:O):TS sp sl r [0,1,2,3,4,5,6] [573,608] 20 (d0 eF) 5 ⟨gc (cX lim st) D L (iL nd s bg (g0 c a n)) P [],[.k .none (gc (cX lim (st+1)) D L (iL nd s bg (g0 c a n)) P []),.k (.none) (gc H1 D1 L1 (iL nd s bg (g0 c a n)) P1 [])],[]⟩ Fl.brk (gc H1 D1 L1 (iL nd s bg [(150,c),(31,a),(103,n),(109,.none)]) P1 []) [sp 608 [c,a,n,.str true s,.obj 6,.obj 1] (gc (cX lim (st+1)) D L (iL nd s bg (g0 c a n)) P []) V.none (gc H1 D1 L1 (iL nd s bg (g0 c a n)) P1 []),sp 573 [.obj 1] (gc (cX lim st) D L (iL nd s bg (g0 c a n)) P []) V.none (gc (cX lim (st+1)) D L (iL nd s bg (g0 c a n)) P [])]:=by
 walk_at"k"
theorem Er(sp:jA)(sl:jz)(r:Nat)(lim st bg:Int)(D L P:O)(s:Str)(nd c n:V)(a:V)(H1 D1 L1 P1:O):TS sp sl r [0,1,2,3,4,5,6] [573,608] 20 (d0 eF) 5 ⟨gc (cX lim st) D L (iL nd s bg (g0 c a n)) P [],[.k .none (gc (cX lim (st+1)) D L (iL nd s bg (g0 c a n)) P []),.k (.str false jB) (gc H1 D1 L1 (iL nd s bg (g0 c a n)) P1 [])],[]⟩ (Fl.ret (.str false (S [108,111,115,116]))) (gc H1 D1 L1 (iL nd s bg [(150,c),(31,a),(103,n),(109,.str false jB)]) P1 []) [sp 608 [c,a,n,.str true s,.obj 6,.obj 1] (gc (cX lim (st+1)) D L (iL nd s bg (g0 c a n)) P []) (V.str false jB) (gc H1 D1 L1 (iL nd s bg (g0 c a n)) P1 []),sp 573 [.obj 1] (gc (cX lim st) D L (iL nd s bg (g0 c a n)) P []) V.none (gc (cX lim (st+1)) D L (iL nd s bg (g0 c a n)) P [])]:=by
 walk_at"k"
theorem GC(sp:jA)(sl:jz)(r:Nat)(lim st bg:Int)(D L P:O)(s:Str)(nd c n:V)(a:V)(H1 D1 L1 P1:O)(c2 a2 n2:V):TS sp sl r [0,1,2,3,4,5,6] [573,608] 20 (d0 eF) 5 ⟨gc (cX lim st) D L (iL nd s bg (g0 c a n)) P [],[.k .none (gc (cX lim (st+1)) D L (iL nd s bg (g0 c a n)) P []),.k (.tup [c2,a2,n2]) (gc H1 D1 L1 (iL nd s bg (g0 c a n)) P1 [])],[]⟩ Fl.next (gc H1 D1 L1 (iL nd s bg [(150,c2),(31,a2),(103,n2),(109,.tup [c2,a2,n2])]) P1 []) [sp 608 [c,a,n,.str true s,.obj 6,.obj 1] (gc (cX lim (st+1)) D L (iL nd s bg (g0 c a n)) P []) (V.tup [c2,a2,n2]) (gc H1 D1 L1 (iL nd s bg (g0 c a n)) P1 []),sp 573 [.obj 1] (gc (cX lim st) D L (iL nd s bg (g0 c a n)) P []) V.none (gc (cX lim (st+1)) D L (iL nd s bg (g0 c a n)) P [])]:=by
 walk_at"k"
theorem B4(sp:jA)(sl:jz)(r:Nat)(rsp:uS)(rsl:uZ)(lim st bg:Int)(D L P:O)(s:Str)(nd c n:V)(a:V):Option.map (tr [0,1,2,3,4,5,6]) ((tP (Pg (fe [573,608]) sp sl r) (Rg (fe [573]) rsp rsl) 20).ss (d0 eF) 5 ⟨gc (cX lim st) D L (iL nd s bg (g0 c a n)) P [],[.r (gc (cX lim (st+1)) D L (iL nd s bg (g0 c a n)) P [])],[]⟩)=some (List.map some (gc (cX lim (st+1)) D L (iL nd s bg (g0 c a n)) P []),[rsp 573 [.obj 1] (gc (cX lim st) D L (iL nd s bg (g0 c a n)) P []) (gc (cX lim (st+1)) D L (iL nd s bg (g0 c a n)) P [])]):=by
 walk_at"k"
theorem Dz:TS sp sl r [0,1,2,3,4,5,6] [] 20 (d0 eW) 5 ⟨gc (cX lim st) D L (iL nd s bg []) (.stk (.none::top) []) [],[],[]⟩ (Fl.ret (.str false (S [108,111,115,116]))) (gc (cX lim st) D L (iL nd s bg [(109,.none)]) (.stk top []) []) [(0:Nat)+List.length (V.none::top)<2^20]:=by
 walk_at"k"
theorem Ft(sp:jA)(sl:jz)(r:Nat)(lim st bg:Int)(D L:O)(s:Str)(nd:V)(top:List V)(c a n:V)(H1 D1 L1 P1:O)(a2:V)(ns:List V):TS sp sl r [0,1,2,3,4,5,6,7] [] 20 (d0 eW) 5 ⟨gc (cX lim st) D L (iL nd s bg []) (.stk (.tup [c,a,n]::top) []) [],[.l .next (gc H1 D1 L1 (iL nd s bg (g0 .none a2 (.tup ns))) P1 [])],[]⟩ (Fl.ret (.tup [a2,.obj 7])) (gc H1 D1 L1 (iL nd s bg (g0 .none a2 (.tup ns))) P1 [.list true ns]) [List.length ns<2^20,sl eF 5 (gc (cX lim st) D L (iL nd s bg [(109,.tup [c,a,n]),(150,c),(31,a),(103,n)]) (.stk top []) []) Fl.next (gc H1 D1 L1 (iL nd s bg (g0 .none a2 (.tup ns))) P1 []),(0:Nat)+List.length (V.tup [c,a,n]::top)<2^20]:=by
 walk_at"k"
theorem Hw(sp:jA)(sl:jz)(r:Nat)(lim st bg:Int)(D L:O)(s:Str)(nd:V)(top:List V)(c a n:V)(H1 D1 L1 P1:O)(i2 r2:V):TS sp sl r [0,1,2,3,4,5,6] [] 20 (d0 eW) 5 ⟨gc (cX lim st) D L (iL nd s bg []) (.stk (.tup [c,a,n]::top) []) [],[.l .next (gc H1 D1 L1 (iL nd s bg [(fG,.tup [i2,r2])]) P1 [])],[]⟩ Fl.next (gc H1 D1 L1 (iL nd s bg [(150,.tup [i2,r2])]) P1 []) [sl eF 5 (gc (cX lim st) D L (iL nd s bg [(109,.tup [c,a,n]),(150,c),(31,a),(103,n)]) (.stk top []) []) Fl.next (gc H1 D1 L1 (iL nd s bg [(150,.tup [i2,r2])]) P1 []),(0:Nat)+List.length (V.tup [c,a,n]::top)<2^20]:=by
 walk_at"k"
theorem Ep(sp:jA)(sl:jz)(r:Nat)(lim st bg:Int)(D L:O)(s:Str)(nd:V)(top:List V)(c a n:V)(H1 D1 L1 P1:O):TS sp sl r [0,1,2,3,4,5,6] [] 20 (d0 eW) 5 ⟨gc (cX lim st) D L (iL nd s bg []) (.stk (.tup [c,a,n]::top) []) [],[.l (.ret (.str true jB)) (gc H1 D1 L1 [] P1 [])],[]⟩ (Fl.ret (.str true jB)) (gc H1 D1 L1 [] P1 []) [sl eF 5 (gc (cX lim st) D L (iL nd s bg [(109,.tup [c,a,n]),(150,c),(31,a),(103,n)]) (.stk top []) []) (Fl.ret (V.str true jB)) (gc H1 D1 L1 [] P1 []),(0:Nat)+List.length (V.tup [c,a,n]::top)<2^20]:=by
 walk_at"k"
theorem Ck(sp:jA)(sl:jz)(r:Nat)(rsp:uS)(rsl:uZ)(lim st bg:Int)(D L:O)(s:Str)(nd:V)(top:List V)(c a n:V)(H1 D1 L1 P1:O):Option.map (tr [0,1,2,3,4,5,6]) ((tP (Pg (fe []) sp sl r) (Rg (fe []) rsp rsl) 20).ss (d0 eW) 5 ⟨gc (cX lim st) D L (iL nd s bg []) (.stk (.tup [c,a,n]::top) []) [],[.r (gc H1 D1 L1 [] P1 [])],[]⟩)=some (List.map some (gc H1 D1 L1 [] P1 []),[rsl eF 5 (gc (cX lim st) D L (iL nd s bg [(109,.tup [c,a,n]),(150,c),(31,a),(103,n)]) (.stk top []) []) (gc H1 D1 L1 [] P1 []),(0:Nat)+List.length (V.tup [c,a,n]::top)<2^20]):=by
 walk_at"k"
theorem Cg:TC sp sl r [0,1,2,3,4] [] 20 601 [nd,.str true s,.int true bg,.obj 1] ⟨k8 (cX lim st) D L [],[.l .next (gc H1 D1 L1 (iL nd s bg []) (.stk [] []) [])],[]⟩ .none (k8 H1 D1 L1 []) [sl eW 5 (gc (cX lim st) D L (iL nd s bg []) (.list true [.tup [.tup [nd,.none],.int true bg,.tup []]]) []) Fl.next (gc H1 D1 L1 (iL nd s bg []) (.stk [] []) [])]:=by
 walk_at"k"
theorem Bc:TC sp sl r [0,1,2,3,4] [] 20 601 [nd,.str true s,.int true bg,.obj 1] ⟨k8 (cX lim st) D L [],[.l (.ret (.str true jB)) (gc H1 D1 L1 [] .any [])],[]⟩ (.str true jB) (k8 H1 D1 L1 []) [sl eW 5 (gc (cX lim st) D L (iL nd s bg []) (.list true [.tup [.tup [nd,.none],.int true bg,.tup []]]) []) (Fl.ret (V.str true jB)) (gc H1 D1 L1 [] .any [])]:=by
 walk_at"k"
theorem Ec(sp:jA)(sl:jz)(r:Nat)(lim st bg:Int)(D L:O)(s:Str)(nd:V)(H1 D1 L1:O)(a:Int)(ns:List V):TC sp sl r [0,1,2,3,4,7] [] 20 601 [nd,.str true s,.int true bg,.obj 1] ⟨k8 (cX lim st) D L [],[.l (.ret (.tup [.int true a,.obj 7])) (gc H1 D1 L1 [] .any [.list true ns])],[]⟩ (.tup [.int true a,.obj 7]) (k8 H1 D1 L1 [.list true ns]) [sl eW 5 (gc (cX lim st) D L (iL nd s bg []) (.list true [.tup [.tup [nd,.none],.int true bg,.tup []]]) []) (Fl.ret (V.tup [V.int true a,V.obj 7])) (gc H1 D1 L1 [] .any [.list true ns])]:=by
 walk_at"k"
theorem zJ:Option.map (tr [0,1,2,3,4]) ((tP (Pg (fe []) sp sl r) (Rg (fe []) rsp rsl) 20).c 601 [nd,.str true s,.int true bg,.obj 1] ⟨k8 (cX lim st) D L [],[.r (gc H1 D1 L1 [] .any [])],[]⟩)=some (List.map some (k8 H1 D1 L1 []),[rsl eW 5 (gc (cX lim st) D L (iL nd s bg []) (.list true [.tup [.tup [nd,.none],.int true bg,.tup []]]) []) (gc H1 D1 L1 [] .any [])]):=by
 walk_at"k"
theorem B3:TS sp sl r [0,1,2,3,4,5] [601] 30 (d0 fN) 5 ⟨k8 (cX lim st) D L [.frame (iN nd s an [(dB,.int true j)])],[.k .none (k8 H1 D1 L1 (.frame (iN nd s an [(dB,.int true j)]):: .frame [(cU,nd),(cS,.str true s),(dB,.int true j),(dt,.obj 1)]::[]))],[]⟩ Fl.next (k8 H1 D1 L1 [.frame (iN nd s an [(108,.int true j),(2,.none)])]) [sp 601 [nd,.str true s,.int true j,.obj 1] (gc (cX lim st) D L (iN nd s an [(108,.int true j)]) (.frame [(0,nd),(75,.str true s),(108,.int true j),(67,.obj 1)]) []) V.none (gc H1 D1 L1 (iN nd s an [(108,.int true j)]) (.frame [(0,nd),(75,.str true s),(108,.int true j),(67,.obj 1)]) [])]:=by
 walk_at"k"
theorem Cn:TS sp sl r [0,1,2,3,4,5] [601] 30 (d0 fN) 5 ⟨k8 (cX lim st) D L [.frame (iN nd s an [(dB,.int true j)])],[.k (.str false jB) (k8 H1 D1 L1 (.frame (iN nd s an [(dB,.int true j)]):: .frame [(cU,nd),(cS,.str true s),(dB,.int true j),(dt,.obj 1)]::[]))],[]⟩ (Fl.ret .none) (k8 H1 D1 L1 [.frame (iN nd s an [(108,.int true j),(2,.str false jB)])]) [sp 601 [nd,.str true s,.int true j,.obj 1] (gc (cX lim st) D L (iN nd s an [(108,.int true j)]) (.frame [(0,nd),(75,.str true s),(108,.int true j),(67,.obj 1)]) []) (V.str false jB) (gc H1 D1 L1 (iN nd s an [(108,.int true j)]) (.frame [(0,nd),(75,.str true s),(108,.int true j),(67,.obj 1)]) [])]:=by
 walk_at"k"
theorem EJ(sp:jA)(sl:jz)(r:Nat)(lim st j:Int)(D L:O)(s:Str)(an:Bool)(nd:V)(H1 D1 L1:O)(a:Int)(ns:List V):TS sp sl r [0,1,2,3,4,5,7] [601] 30 (d0 fN) 5 ⟨k8 (cX lim st) D L [.frame (iN nd s an [(dB,.int true j)])],[.k (.tup [.int true a,.obj 7]) (k8 H1 D1 L1 (.frame (iN nd s an [(dB,.int true j)]):: .frame [(cU,nd),(cS,.str true s),(dB,.int true j),(dt,.obj 1)]::[.list true ns]))],[]⟩ (Fl.ret (.tup [.int true j,.int true a,.obj 7])) (gc H1 D1 L1 (iN nd s an [(108,.int true j),(2,.tup [.int true j,.int true a,.obj 7])]) (.list true ns) []) [sp 601 [nd,.str true s,.int true j,.obj 1] (gc (cX lim st) D L (iN nd s an [(108,.int true j)]) (.frame [(0,nd),(75,.str true s),(108,.int true j),(67,.obj 1)]) []) (V.tup [V.int true a,V.obj 7]) (gc H1 D1 L1 (iN nd s an [(108,.int true j)]) (.frame [(0,nd),(75,.str true s),(108,.int true j),(67,.obj 1)]) [.list true ns])]:=by
 walk_at"k"
theorem yF:Option.map (tr [0,1,2,3,4,5]) ((tP (Pg (fe [601]) sp sl r) (Rg (fe [601]) rsp rsl) 30).ss (d0 fN) 5 ⟨k8 (cX lim st) D L [.frame (iN nd s an [(dB,.int true j)])],[.r (k8 H1 D1 L1 (.frame (iN nd s an [(dB,.int true j)]):: .frame [(cU,nd),(cS,.str true s),(dB,.int true j),(dt,.obj 1)]::[]))],[]⟩)=some (List.map some (k8 H1 D1 L1 [.frame (iN nd s an [(108,.int true j)])]),[rsp 601 [nd,.str true s,.int true j,.obj 1] (gc (cX lim st) D L (iN nd s an [(108,.int true j)]) (.frame [(0,nd),(75,.str true s),(108,.int true j),(67,.obj 1)]) []) (gc H1 D1 L1 (iN nd s an [(108,.int true j)]) (.frame [(0,nd),(75,.str true s),(108,.int true j),(67,.obj 1)]) [])]):=by
 walk_at"k"
theorem KL:TC sp sl r [0,1,2,3,4] [] 20 587 [nd,.str true s,.bool an,.obj 1] ⟨k8 (cX lim st) D L [],[.l .next (k8 H1 D1 L1 [.frame (iN nd s an [])])],[]⟩ .none (k8 H1 D1 L1 []) [sl fN 5 (k8 (cX lim st) D L [.frame (iN nd s an [])]) Fl.next (k8 H1 D1 L1 [.frame (iN nd s an [])])]:=by
 walk_at"k"
theorem Ks:TC sp sl r [0,1,2,3,4] [] 20 587 [nd,.str true s,.bool an,.obj 1] ⟨k8 (cX lim st) D L [],[.l (.ret .none) (k8 H1 D1 L1 [.frame []])],[]⟩ .none (k8 H1 D1 L1 []) [sl fN 5 (k8 (cX lim st) D L [.frame (iN nd s an [])]) (Fl.ret V.none) (k8 H1 D1 L1 [.frame []])]:=by
 walk_at"k"
theorem K3(sp:jA)(sl:jz)(r:Nat)(lim st:Int)(D L:O)(s:Str)(an:Bool)(nd:V)(H1 D1 L1:O)(j a:Int)(ns:List V):TC sp sl r [0,1,2,3,4,6] [] 20 587 [nd,.str true s,.bool an,.obj 1] ⟨k8 (cX lim st) D L [],[.l (.ret (.tup [.int true j,.int true a,.obj 6])) (k8 H1 D1 L1 [.frame [],.list true ns])],[]⟩ (.tup [.int true j,.int true a,.obj 6]) (k8 H1 D1 L1 [.list true ns]) [sl fN 5 (k8 (cX lim st) D L [.frame (iN nd s an [])]) (Fl.ret (V.tup [V.int true j,V.int true a,V.obj 6])) (gc H1 D1 L1 [] (.list true ns) [])]:=by
 walk_at"k"
theorem Kl:Option.map (tr [0,1,2,3,4]) ((tP (Pg (fe []) sp sl r) (Rg (fe []) rsp rsl) 20).c 587 [nd,.str true s,.bool an,.obj 1] ⟨k8 (cX lim st) D L [],[.r (k8 H1 D1 L1 [.frame []])],[]⟩)=some (List.map some (k8 H1 D1 L1 []),[rsl fN 5 (k8 (cX lim st) D L [.frame (iN nd s an [])]) (k8 H1 D1 L1 [.frame []])]):=by
 walk_at"k"
end
def xW(s:Str)(q:Tw)(ns:List Str)(p:eK)(lg:List LE)(y:tG×eK×List LE):Prop:=
 (∀t,y.1= .way t->t.at_<=s.length/\t.ns.length<=ns.length+1)/\y.2.1.length<=p.length+1/\y.2.2.length<=lg.length+1/\∀t,some t∈y.2.1->some t∈p\/t=q
section
variable{s:Str} {ns:List Str} {p:eK} {lg:List LE} {r:List jO} {a:Nat}
theorem jR{q:Tw}{z:Tw}{l:List LE}(h1:z.at_<=s.length)(h2:z.ns.length<=ns.length+1)(h3:l.length<=lg.length+1):xW s q ns p lg (.way z,p,l):=
 ⟨λt e=>by injection e with e;exact e▸⟨h1,h2⟩,au _,h3,λt m=>.inl m⟩
theorem sD{q:Tw}{y:tG}(h:∀t,y≠ .way t):xW s q ns p lg (y,p,lg):=⟨λt e=>absurd e (h t),au _,au _,λt m=>.inl m⟩
theorem AT{q:Tw}{z:Tw}{w:Option Tw}(h1:z.at_<=s.length)(h2:z.ns.length<=ns.length+1)(h:∀t,some t=w->t=q):xW s q ns p lg (.way z,w::p,lg):=
 ⟨λt e=>by injection e with e;exact e▸⟨h1,h2⟩,ao _,au _,λt m=>(aD.mp m).elim (λe=>.inr (h t e)) .inl⟩
theorem pI{x:Tw}(ha:a<=s.length)(q:HZ):xW s x ns p lg (match eB s a q with | some e=>(.way ⟨r,e,ns⟩,p,lg) | none=>(.no,p,lg)):=by
 cases c:eB s a q with
 |none=>exact sD λt z=>by injection z
 |some e=>exact jR (kR ha c) (au _) (au _)
theorem rZ{α:Type}{l:List α}{x:α}:(l++[x]).length<=l.length+1:=aY (ai ..)
theorem Lk{i:jO}(ha:a<=s.length):xW s ⟨i::r,a,ns⟩ ns p lg (adv s i r a ns p lg):=by
 cases i with
 |endN m=>exact jR ha (au _) rZ
 |endL m=>exact jR ha rZ (au _)
 |nd n=>
  cases n with
  |cat u v=>exact jR ha (au _) (au _)
  |lf l=>
   cases l with
   |suc=>exact AT ha (au _) λt e=>ac e
   |part q=>
    cases q with
    |cur=>exact jR ha (au _) rZ
    |mk m b=>
     cases m with
     |now=>exact jR ha (au _) (au _)
     |later=>exact jR ha (au _) (au _)
     |bare=>
      cases b with
      |fail=>exact sD λt z=>by injection z
      |abort=>exact sD λt z=>by injection z
      |fence=>exact AT ha (au _) λt e=>by injection e
      |ca=>exact pI ha (.txt sA)
      |cb=>exact pI ha (.txt sB)
      |any=>exact pI ha .any
      |len1=>exact pI ha (.len 1)
      |len0=>exact pI ha (.len 0)
theorem Dt{i:jO}{x:tG}{p':eK}{G':List LE}(h:adv s i r a ns p lg=(x,p',G'))(ha:a<=s.length):xW s ⟨i::r,a,ns⟩ ns p lg (x,p',G'):=h▸Lk ha
structure vZ(s:Str)(p:eK)(lg:List LE)(st:Nat):Prop where
 at_:∀t,some t∈p->t.at_<=s.length/\t.ns.length<=st
 pl:p.length<=st+1
 lgb:lg.length<=st
 stb:st<1000
theorem vZ.adv{lim st:Nat}{i:jO}{p1:eK}{L':List LE}{y:tG}(hlim:lim<990)(A':¬lim<st+1)(tb:vZ s p lg st)(ha:a<=s.length)(hn:ns.length<=st)(k:xW s ⟨i::r,a,ns⟩ ns p lg (y,p1,L')):vZ s p1 L' (st+1):=
 ⟨λt m=>(k.2.2.2 t m).elim (λm=>⟨(tb.at_ t m).1,aG (tb.at_ t m).2⟩) λe=>by rw[e];exact⟨ha,aG hn⟩,ax k.2.1 (aC tb.pl),ax k.2.2.1 (aC tb.lgb),by omega⟩
theorem og{b:Bs}{r n k:Nat}{l₀ l₁:List Nat}{EI:eZ}{rz:Prop}{bd:List MS}{fi:Nat}{σ I' H':List O}{ch:List Ch}{cs:List Prop}{NP:Fl->List O->Prop}{XP J:List O->Prop}(hz:rz)(l:List Nat)(h:Option.map (tr l) ((tP (Pg (fe l₀) (Ct b r) (Lt b r) r) (Rg (fe l₁) (eU ((C b).at r) EI) (ma ((C b).at r) EI)) n).ss bd fi ⟨σ,ch,[]⟩)=some (List.map some I',cs))(hc:jx cs)(S:ROs (fb l) I' H')(hX:XP H')
  (nd:l.Nodup:=by decide) (keep:kj l 0 k:=by rfl):iC (C b) r (fe l₀) (fe l₁) EI rz n k bd fi σ NP XP J:=by
 obtain⟨st,e1,e2⟩:=aq.mp h;obtain⟨e3,rfl⟩:l.map (nth st.os ·)=I'.map some/\st.cs=cs:=by simpa only[bc] using e2
 exact .inr ⟨hz,ch,st,e1,gj hc,_,(dg.sel (c:=C b) (k:=k) e3 nd (fj keep) S).mono (ao _) λσ' e=>by subst e;exact hX⟩
theorem Di{b:Bs}{r n k:Nat}{l₀:List Nat}{EI:eZ}{rz:Prop}{bd:List MS}{fi:Nat}{σ I' H':List O}{ch:List Ch}{cs:List Prop}{NP:Fl->List O->Prop}{XP J:List O->Prop}{v:V}(l:List Nat)(h:Option.map (C3 l) ((ev (Pg (fe l₀) (Ct b r) (Lt b r) r) n).ss bd fi ⟨σ,ch,[]⟩)=some (.brk,List.map some I',cs))(hc:jx cs)(S:ROs (fb l) I' H')(hN:NP .next H')
  (nd:l.Nodup:=by decide) (keep:kj l 0 k:=by rfl) {orc':Nat->Bool}:iC (C b) r (fe l₀) orc' EI rz n k bd fi σ NP XP J:=by
 obtain⟨⟨f,st⟩,e1,e2⟩:=aq.mp h;obtain⟨rfl,e3,rfl⟩:f= .brk/\l.map (nth st.os ·)=I'.map some/\st.cs=cs:=by simpa only[bc] using e2
 exact .inl ⟨ch,.brk,st,e1,gj hc,_,(dg.sel (c:=C b) (k:=k) e3 nd (fj keep) S).mono (ao _) λσ' e=>by subst e;exact hN⟩
abbrev yR(lim st:Nat)(lg:List LE)(nd:Nd)(s:Str)(bg:Nat)(fr:List (Nm×V))(P:O)(tl:List O):List O:=gc (dG lim st) (valO lg) (dz lg) (iL (d6 0 nd) s (bg:Int) fr) P tl
theorem ROs.U{lim st:Nat}{f:Nat->Option Nat}{fr fr':List (Nm×V)}{P P':O}{tl tl':List O}(h:∀i,i<7->f i=some i)(hf:FrR f fr fr')(hP:RO f P P')(k:ROs f tl tl'):
  ROs f (gc (dG lim st) (valO lg) (dz lg) fr P tl) (gc (dG lim st) (valO lg) (dz lg) fr' P' tl'):=
 .k .ref (.k (.host (h _ ()) (h _ ()) (h _ ())) (.k (.valO lg) (.k (.l .z) (.k (.log lg) (.k (.f hf) (.k hP k))))))
theorem FrR.five{nd:Nd}{bg:Nat}{f:Nat->Option Nat}{tl tl':List (Nm×V)}(h:∀i,i<7->f i=some i)(k:FrR f (iL (d6 0 nd) s (bg:Int) tl) tl'):FrR f (iL (d6 0 nd) s (bg:Int) tl) (iL (d6 0 nd) s (bg:Int) tl'):=
 .k rfl (.nd (h _ ()) nd) (.k rfl .s (.k rfl .i (.k rfl (.o (h _ ())) (.k rfl (.o (h _ ())) k))))
def JM(ch:List jO)(a:Nat)(ns:List Str):List (Nm×V):=g0 (rq ch) (.int true (a:Int)) (.tup (ns.map iB))
theorem FrR.C{nd:Nd}{bg:Nat}{f:Nat->Option Nat}{ch:List jO}(h:∀i,i<7->f i=some i){w:List (Nm×V)}:
  FrR f (iL (d6 0 nd) s (bg:Int) (g0 (rq ch) (.int true (a:Int)) (.tup (ns.map iB))++w)) (iL (d6 0 nd) s (bg:Int) (JM ch a ns)):=
 .five h (.k rfl (.ch (h _ ()) ch) (.k rfl .i (.k rfl (.t (.nps (h _ ()) ns)) .z)))
end
nonrec theorem Ln{b:Bs}{lim st:Nat}{s:Str}{lg:List LE}{p:eK}{a:Nat}{ns:List Str}{i:jO}{r:List jO}(G:dI b)(hs:s.length<=8)(ha:a<=s.length)(hl:lg.length<2^19)(hp:p.length<2^19)(hn:ns.length<2^19){x:tG×eK×List LE}(hx:adv s i r a ns p lg=x)(fr:List (Nm×V)):Ct b 40 608 [rq (i::r),.int true (a:Int),.tup (ns.map iB),.str true s,.obj 6,.obj 1] (gc (dG lim st) (valO lg) (dz lg) fr (.stk (p.map lZ) []) []) (EE x.1) (gc (dG lim st) (valO x.2.2) (dz x.2.2) fr (.stk (x.2.1.map lZ) []) []):=by
 have T:=Kb (b:=b) (lim:=lim) (st:=st) G hs ha hl hp hn hx;obtain⟨y,p',G'⟩:=x;have q:=fJ.frame (l:=[0,1,2,3,4,6]) (os:=gc (dG lim st) (valO lg) (dz lg) fr (.stk (p.map lZ) []) []) (I':=nN lim st lg p) (news:=nN lim st G' p') (vs:=[rq (i::r),.int true (a:Int),.tup (ns.map iB),.str true s,.obj 6,.obj 1]) (w:=EE y) rfl T rfl ()
  (.k .ref (.k (.host rfl rfl rfl) (.k (.valO lg) (.k (.l .z) (.k (.log lg) (.k (.y (.pl (by rfl) p)) .z))))))
  (.k (.t (.k (.toW (by rfl) i) (.k (.ch (by rfl) r) .z))) (.k .i (.k (.t (.nps (by rfl) ns)) (.k .s (.k (.o rfl) (.k (.o rfl) .z))))))
  (.k .ref (.k (.host rfl rfl rfl) (.k (.valO G') (.k (.l .z) (.k (.log G') (.k (.y (.pl (by rfl) p')) .z))))))
  (by cases y with
   |way t=>exact .tw (by rfl) t
   |no=>exact .n
   |lost=>exact .s)
 exact q
def FV(lim:Nat)(nd:Nd)(s:Str)(bg:Nat)(x:zW×eK×List LE×Nat)(fl:Fl)(σ:List O):Prop:=match x with
 |(.fin a ns,p,lg,st)=>fl= .next/\σ=yR lim st lg nd s bg (JM [] a ns) (.stk (p.map lZ) []) []
 |(.brk i r,p,lg,st)=>fl= .next/\σ=yR lim st lg nd s bg [(fG,rq (i::r))] (.stk (p.map lZ) []) []
 |(.lost,p,lg,st)=>fl= .ret (.str true jB)/\σ=gc (dG lim st) (valO lg) (dz lg) [] (.stk (p.map lZ) []) []
 |(.raised _ _,_,_,_)=>False
def IE(lim:Nat)(x:zW×eK×List LE×Nat)(σ:List O):Prop:=match x with
 |(.raised _ _,p,lg,st)=>σ=gc (dG lim st) (valO lg) (dz lg) [] (.stk (p.map lZ) []) []
 |_=>False
def MY(lim:Nat)(nd:Nd)(s:Str)(bg:Nat)(x:zW×eK×List LE×Nat)(N:Nat)(σ:List O):Prop:=
 ∃ch a ns p lg st,σ=yR lim st lg nd s bg (JM ch a ns) (.stk (p.map lZ) []) []/\ko s lim N ch a ns p lg st=some x/\vZ s p lg st/\a<=s.length/\ns.length<=st
theorem jr(s:Str)(lim n:Nat)(i:jO)(r:List jO)(a:Nat)(ns:List Str)(p:eK)(lg:List LE)(st:Nat):ko s lim (n+1) (i::r) a ns p lg st=if lim<st+1 then some (.raised i r,p,lg,st+1) else
  match adv s i r a ns p lg with
  |(.no,p,lg)=>some (.brk i r,p,lg,st+1)
  |(.lost,p,lg)=>some (.lost,p,lg,st+1)
  |(.way t,p,lg)=>ko s lim n t.ch t.at_ t.ns p lg (st+1):=rfl
nonrec theorem FI{b:Bs}{st:Nat}{s:Str}{lg:List LE}{p:eK}{EI:eZ}{bg:Nat}{rz:Prop}{a:Nat}{i:jO}{r:List jO}{ns:List Str}{{lim:Nat}}{{nd:Nd}}(G:dI b)(hs:s.length<=8)(hlim:lim<990){x:zW×eK×List LE×Nat}(SX:(∃i r p l t,x=(zW.raised i r,p,l,t))->rz/\ik b EI){n:Nat}(h1:ko s lim n (i::r) a ns p lg st=some x)(tb:vZ s p lg st)(ha:a<=s.length)(hn:ns.length<=st):
  iC (C b) 40 (fe [573,608]) (fe [573]) EI rz 20 7 (d0 eF) 5 (yR lim st lg nd s bg (JM (i::r) a ns) (.stk (p.map lZ) []) []) (FV lim nd s bg x) (IE lim x) (λσ'=>∃N',N'<n/\MY lim nd s bg x N' σ'):=by
 have stb:=tb.stb;cases n with
 |zero=>injection h1
 |succ n=>
  rw[jr] at h1
  by_cases A':lim<st+1
  .rw[if_pos A'] at h1
   have h1:=(ac h1).symm;subst h1;obtain⟨z1,z2⟩:=SX ⟨_,_,_,_,_,rfl⟩;exact og z1 [0,1,2,3,4,5,6] (B4 ..) ⟨Eb z2 A' stb _,N4⟩
    (.U (st:=st+1) () .z (.y (.pl (by rfl) p)) .z) rfl
  .rw[if_neg A'] at h1
   cases hx:adv s i r a ns p lg with
   |mk y q=>
    obtain⟨p',G'⟩:=q;rw[hx] at h1;obtain⟨k1,k2,k3,k4⟩:=Dt hx ha;have A:=Ln (b:=b) (lim:=lim) (st:=st+1) G hs ha (by have:=tb.lgb;omega) (by have:=tb.pl;omega) (by omega) hx (iL (d6 0 nd) s (bg:Int) (g0 (rq (i::r)) (.int true (a:Int)) (.tup (ns.map iB))));have Sx:=md (b:=b) (lim:=lim) (lg:=lg) G A' [.frame (iL (d6 0 nd) s (bg:Int) (g0 (rq (i::r)) (.int true (a:Int)) (.tup (ns.map iB)))),.stk (p.map lZ) []];have tb':vZ s p' G' (st+1):=tb.adv (by omega) A' ha hn ⟨k1,k2,k3,k4⟩;cases y with
    |no=>
     have h1:=(ac h1).symm;subst h1;exact Di (v:=.none) [0,1,2,3,4,5,6] (Jl ..) ⟨A,Sx,N4⟩
      (.U (st:=st+1) () (.five (tl:=g0 (rq (i::r)) (.int true (a:Int)) (.tup (ns.map iB))++[(dQ,.none)]) () (.k rfl (.ch (by rfl) (i::r)) .z)) (.y (.pl (by rfl) p')) .z) ⟨rfl,rfl⟩
    |lost=>
     have h1:=(ac h1).symm;subst h1;exact fT [0,1,2,3,4,5,6] (Er ..) ⟨A,Sx,N4⟩
      (.U (st:=st+1) () .z (.y (.pl (by rfl) p')) .z) .s ⟨rfl,rfl⟩
    |way t=>
     have kt:=k1 t rfl;exact eQ [0,1,2,3,4,5,6] (GC ..) ⟨A,Sx,N4⟩
      (.U (st:=st+1) () (.C (ch:=t.ch) (a:=t.at_) (ns:=t.ns) (w:=[(dQ,.tup [rq t.ch,.int true (t.at_:Int),.tup (t.ns.map iB)])]) ()) (.y (.pl (by rfl) p')) .z) ⟨n,aX _,t.ch,t.at_,t.ns,p',G',st+1,rfl,h1,tb',kt.1,by omega⟩
nonrec theorem AK{b:Bs}{lim st:Nat}{s:Str}{lg:List LE}{p:eK}{EI:eZ}{nd:Nd}{bg:Nat}{rz:Prop}{n a:Nat}{ns:List Str}(G:dI b)(hs:s.length<=8)(hlim:lim<990){x:zW×eK×List LE×Nat}(SX:(∃i r p l t,x=(zW.raised i r,p,l,t))->rz/\ik b EI){ch:List jO}(h1:ko s lim n ch a ns p lg st=some x)(tb:vZ s p lg st)(ha:a<=s.length)(hn:ns.length<=st):dL ((C b).at (20+40)) EI rz eF 5 (yR lim st lg nd s bg (JM ch a ns) (.stk (p.map lZ) []) []) (FV lim nd s bg x) (IE lim x):=by
 show dL _ _ _ (.while (.cmp .IsNot (.loc fG) (.cst .none)) (d0 eF)) _ _ _ _;refine pG (c:=C b) (r:=40) (n:=20) (k:=7) (orc:=fe [573,608]) (orc':=fe [573]) G.X G.F (dD G ()) (dD G ()) (ao _) (MY lim nd s bg x) (λN σ hI=>?_) n ⟨ch,a,ns,p,lg,st,rfl,h1,tb,ha,hn⟩;obtain⟨ch,a,ns,p,lg,st,rfl,h1,tb,ha,hn⟩:=hI;cases ch with
 |nil=>
  cases N with
  |zero=>injection h1
  |succ N=>
   have h1:=(ac h1).symm;subst h1;exact⟨[],false,⟨_,[],[]⟩,rfl,(λI m=>by cases m),⟨some,dg.id ⟨rfl,rfl⟩⟩⟩
 |cons i r=>exact⟨[],true,⟨_,[],[]⟩,rfl,(λI m=>by cases m),FI G hs hlim SX h1 tb ha hn⟩
def Ni(s:Str)(lim st:Nat)(y:zW)(p':eK)(G':List LE)(C':Nat):Prop:=(∀i r,y≠ .raised i r)->(vZ s p' G' C'/\∀a' N0,y= .fin a' N0->N0.length<=C')/\(st<=lim->C'<=lim)
theorem Ae{s:Str}{lim:Nat}(hlim:lim<990){y:zW}{p':eK}{G':List LE}{C':Nat}(n:Nat):∀{ch:List jO} {a:Nat} {ns:List Str} {p:eK} {lg:List LE} {st:Nat},ko s lim n ch a ns p lg st=some (y,p',G',C')->vZ s p lg st->a<=s.length->ns.length<=st->Ni s lim st y p' G' C':=by
 induction n with
 |zero=>intro ch a ns p lg st h;injection h
 |succ n ih=>
  intro ch a ns p lg st h tb ha hn;cases ch with
  |nil=>injection h;exact λI=>⟨⟨tb,λa' N0 e=>by cases e;exact hn⟩,λh=>h⟩
  |cons i r=>
   rw[jr] at h
   by_cases A':lim<st+1
   .rw[if_pos A'] at h
    injection h;exact λnr=>absurd rfl (nr i r)
   .rw[if_neg A'] at h
    cases hx:adv s i r a ns p lg with
    |mk y q=>
     obtain⟨p1,L'⟩:=q;rw[hx] at h;have k:=Dt hx ha;have tb':=tb.adv hlim A' ha hn k;cases y with
     |no=>injection h;exact λI=>⟨⟨tb',λa' N0 e=>by injection e⟩,λI=>bA A'⟩
     |lost=>injection h;exact λI=>⟨⟨tb',λa' N0 e=>by injection e⟩,λI=>bA A'⟩
     |way t=>exact λnr=>(ih h tb' (k.1 t rfl).1 (ax (k.1 t rfl).2 (aC hn)) nr).imp id λz I=>z (bA A')
theorem Eu{s:Str}{lim:Nat}(hlim:lim<990)(n:Nat){ch:List jO}{a:Nat}{ns:List Str}{p:eK}{lg:List LE}{st:Nat}{y:zW}{p':eK}{G':List LE}{C':Nat}(h:ko s lim n ch a ns p lg st=some (y,p',G',C'))(tb:vZ s p lg st)(ha:a<=s.length)(hn:ns.length<=st)
  (nr:∀i r,y≠ .raised i r):vZ s p' G' C'/\∀a' N0,y= .fin a' N0->N0.length<=C':=(Ae hlim n h tb ha hn nr).1
def Ew(lim:Nat)(nd:Nd)(s:Str)(bg:Nat)(x:yu×eK×List LE×Nat)(fl:Fl)(σ:List O):Prop:=match x with
 |(.none,_,lg,st)=>fl= .next/\σ=yR lim st lg nd s bg [] (.stk [] []) []
 |(.lost _,_,lg,st)=>fl= .ret (.str true jB)/\σ=gc (dG lim st) (valO lg) (dz lg) [] .any []
 |(.fin a ns,_,lg,st)=>fl= .ret (.tup [.int true (a:Int),.obj 7])/\σ=gc (dG lim st) (valO lg) (dz lg) [] .any [.list true (ns.map iB)]
 |(.raised,_,_,_)=>False
def D8(lim:Nat)(x:yu×eK×List LE×Nat)(σ:List O):Prop:=match x with
 |(.raised,_,lg,st)=>σ=gc (dG lim st) (valO lg) (dz lg) [] .any []
 |_=>False
def K9(lim:Nat)(nd:Nd)(s:Str)(bg:Nat)(x:yu×eK×List LE×Nat)(N:Nat)(σ:List O):Prop:=
 ∃p lg st,σ=yR lim st lg nd s bg [] (.stk (p.map lZ) []) []/\ub s lim N p lg st=some x/\vZ s p lg st
theorem jl(s:Str)(lim n:Nat)(t:Tw)(p:eK)(lg:List LE)(st:Nat):ub s lim (n+1) (some t::p) lg st=match ko s lim (lim+2) t.ch t.at_ t.ns p lg st with
  |none=>none
  |some (.raised _ _,p,lg,st)=>some (.raised,p,lg,st)
  |some (.brk _ _,p,lg,st)=>ub s lim n p lg st
  |some (.lost,p,lg,st)=>some (.lost 1,p,lg,st)
  |some (.fin a ns,p,lg,st)=>some (.fin a ns,p,lg,st):=rfl
theorem wN{b:Bs}{lim st:Nat}{s:Str}{lg:List LE}{p:eK}{nd:Nd}{bg:Nat}(G:dI b){EI:eZ}{rz:Prop}{ch:List jO}{a:Nat}{ns:List Str}{NP:Fl->List O->Prop}{XP:List O->Prop}(L:dL ((C b).at 60) EI rz eF 5 (yR lim st lg nd s bg (JM ch a ns) (.stk (p.map lZ) []) []) NP XP):
  dL ((C b).at 60) EI rz eF 5 (yR lim st lg nd s bg [(dQ,.tup [rq ch,.int true (a:Int),.tup (ns.map iB)]),(fG,rq ch),(dW,.int true (a:Int)),(dq,.tup (ns.map iB))] (.stk (p.map lZ) []) []) NP XP:=
 dL.entry (H':=yR lim st lg nd s bg (JM ch a ns) (.stk (p.map lZ) []) []) (dg.to (l:=[0,1,2,3,4,5,6]) rfl rfl
  (.U () (.five () (.k rfl (.ch (by rfl) ch) (.k rfl .i (.k rfl (.t (.nps (by rfl) ns)) .z)))) (.y (.pl (by rfl) p)) .z)) L
nonrec theorem Fh{b:Bs}{lim st:Nat}{s:Str}{lg:List LE}{p:eK}{EI:eZ}{nd:Nd}{bg:Nat}{rz:Prop}(G:dI b)(hs:s.length<=8)(hlim:lim<990){x:yu×eK×List LE×Nat}(SX:(∃p l t,x=(yu.raised,p,l,t))->rz/\ik b EI){n:Nat}{q:Option Tw}(h1:ub s lim n (q::p) lg st=some x)(tb:vZ s (q::p) lg st):iC (C b) 60 (fe []) (fe []) EI rz 20 7 (d0 eW) 5 (yR lim st lg nd s bg [] (.stk ((q::p).map lZ) []) []) (Ew lim nd s bg x) (D8 lim x) (λσ'=>∃N',N'<n/\K9 lim nd s bg x N' σ'):=by
 have stb:=tb.stb;have hpl:(p.map lZ).length+1<2^19:=by rw[af];have:=tb.pl;simp only[bJ] at this;omega
 cases n with
 |zero=>injection h1
 |succ n=>
  cases q with
  |none=>
   have h1:=(ac h1).symm;subst h1;exact fT [0,1,2,3,4,5,6] (Dz ..) ⟨by show 0+(_+1)<_;omega,N4⟩
    (.U (st:=st) () .z .stkAny .z) .s ⟨rfl,rfl⟩
  |some t=>
   have kt:=tb.at_ t (.head _);have tb':vZ s p lg st:=⟨λt m=>tb.at_ t (.tail _ m),by have:=tb.pl;simp only[bJ] at this;omega,tb.lgb,tb.stb⟩
   rw[jl] at h1;have hlen:0+(lZ (some t)::p.map lZ).length<2^20:=by show 0+(_+1)<_;omega
   cases hi:ko s lim (lim+2) t.ch t.at_ t.ns p lg st with
   |none=>rw[hi] at h1;injection h1
   |some q=>
    obtain⟨y,p',G',C'⟩:=q;rw[hi] at h1;have nrm:(∀i r,y≠ .raised i r)->∀fl H',FV lim nd s bg (y,p',G',C') fl H'->(∀f' o',FV lim nd s bg (y,p',G',C') f' o'->f'=fl/\o'=H')->Lt b 60 eF 5 (yR lim st lg nd s bg [(dQ,.tup [rq t.ch,.int true (t.at_:Int),.tup (t.ns.map iB)]),(fG,rq t.ch),(dW,.int true (t.at_:Int)),(dq,.tup (t.ns.map iB))] (.stk (p.map lZ) []) []) fl H':=λnr fl H' I un=>by
     have L:=AK (EI:=λI I I=>True) (rz:=False) (nd:=nd) (bg:=bg) G hs hlim (λ⟨i,r,_,_,_,e⟩=>absurd (az (·.1) e) (nr i r)) hi tb' kt.1 kt.2;have L:=wN G L;refine dL.normal (XP:=IE lim (y,p',G',C')) λA env z s₁ ρ l Q E rm en ck R ad pe fr q qx=>L A env z s₁ ρ l Q E rm en ck R ad pe fr (λρ' s' f N1 σ' k r v=>?_) qx;exact q ρ' s' f N1 σ' (un f σ' k) r v
    cases y with
    |raised i r=>
     have h1:=(ac h1).symm;subst h1;obtain⟨z1,z2⟩:=SX ⟨_,_,_,rfl⟩;have L:=AK (EI:=EI) (rz:=True) (nd:=nd) (bg:=bg) G hs hlim (λI=>⟨N4,z2⟩) hi tb' kt.1 kt.2;have L:=wN G L;exact og z1 [0,1,2,3,4,5,6] (Ck ..) ⟨dL.raises L (λI I h=>h),hlen,N4⟩
      (.U (st:=C') () .z .stkAny .z) rfl
    |brk i r=>
     have ok:=Eu hlim _ hi tb' kt.1 kt.2 (λI I z=>by injection z);exact eQ [0,1,2,3,4,5,6] (Hw ..)
      ⟨nrm (λI I z=>by injection z) _ _ ⟨rfl,rfl⟩ (λI I k=>k),hlen,N4⟩
      (.U (st:=C') () (.five (tl:=[(fG,.tup [KK i,rq r])]) () .z) (.y (.pl (by rfl) p')) .z) ⟨n,aX _,p',G',C',rfl,h1,ok.1⟩
    |lost=>
     have h1:=(ac h1).symm;subst h1;exact fT [0,1,2,3,4,5,6] (Ep ..)
      ⟨nrm (λI I z=>by injection z) _ _ ⟨rfl,rfl⟩ (λI I k=>k),hlen,N4⟩ (.U (st:=C') () .z .stkAny .z) .s ⟨rfl,rfl⟩
    |fin a ns=>
     have ok:=Eu hlim _ hi tb' kt.1 kt.2 (λI I z=>by injection z);have h1:=(ac h1).symm;subst h1;have nl:(ns.map iB).length<2^20:=by rw[af];have:=ok.2 a ns rfl;have:=ok.1.stb;omega
     exact fT [0,1,2,3,4,5,6,7] (Ft ..)
      ⟨nl,nrm (λI I z=>by injection z) _ _ ⟨rfl,rfl⟩ (λI I k=>k),hlen,N4⟩ (.U (st:=C') () .z .stkAny (.k (.l (.nps (by rfl) ns)) .z)) (.t (.k .i (.k (.o (by rfl)) .z))) ⟨rfl,rfl⟩
nonrec theorem DR{b:Bs}{lim st:Nat}{s:Str}{lg:List LE}{EI:eZ}{bg:Nat}{rz:Prop}{n:Nat}{{p:eK}}{{nd:Nd}}(G:dI b)(hs:s.length<=8)(hlim:lim<990){x:yu×eK×List LE×Nat}(SX:(∃p l t,x=(yu.raised,p,l,t))->rz/\ik b EI)(h1:ub s lim n p lg st=some x)(tb:vZ s p lg st):
  dL ((C b).at (20+60)) EI rz eW 5 (yR lim st lg nd s bg [] (.stk (p.map lZ) []) []) (Ew lim nd s bg x) (D8 lim x):=by
 show dL _ _ _ (.while (.cmp .Gt (.call (.glb fU) [(.loc gh)]) (.cst (.int 0))) (d0 eW)) _ _ _ _;refine pG (c:=C b) (r:=60) (n:=20) (k:=7) (orc:=fe []) (orc':=fe []) G.X G.F (dD G ()) (dD G ()) (ao _) (K9 lim nd s bg x) (λN σ hI=>?_) n ⟨p,lg,st,rfl,h1,tb⟩;obtain⟨p,lg,st,rfl,h1,tb⟩:=hI;cases p with
 |nil=>
  cases N with
  |zero=>injection h1
  |succ N=>
   have h1:=(ac h1).symm;subst h1;exact⟨[.b false],false,⟨_,[],[decide ((0:Int)<((0+0:Nat):Int))=false,0+0<2^62]⟩,rfl,gj (l:=[decide ((0:Int)<((0+0:Nat):Int))=false,0+0<2^62]) ⟨by decide,by decide,N4⟩,⟨some,dg.id ⟨rfl,rfl⟩⟩⟩
 |cons q p=>
  have hpl:(p.map lZ).length+1<2^19:=by
   rw[af];have h1:=tb.pl;have h2:=tb.stb;simp only[bJ] at h1;omega
  refine⟨[.b true],true,⟨_,[],[decide ((0:Int)<((0+((p.map lZ).length+1):Nat):Int))=true,0+((p.map lZ).length+1)<2^62]⟩,rfl,gj (l:=[decide ((0:Int)<((0+((p.map lZ).length+1):Nat):Int))=true,0+((p.map lZ).length+1)<2^62])
   ⟨av (by omega),by omega,N4⟩,Fh G hs hlim SX h1 tb⟩
def MI(n:Nat):yu->V
 | .fin a _=>.tup [.int true (a:Int),.obj n]
 | .lost _=>.str false jB
 |_=>.none
def JL:yu->List O
 | .fin _ ns=>[.list true (ns.map iB)]
 |_=>[]
abbrev nE(lim st:Nat)(lg:List LE)(tl:List O):List O:=k8 (dG lim st) (valO lg) (dz lg) tl
theorem ROs.Q{lim st:Nat}{lg:List LE}{f:Nat->Option Nat}{tl tl':List O}(h:∀i,i<5->f i=some i)(k:ROs f tl tl'):ROs f (nE lim st lg tl) (nE lim st lg tl'):=
 .k .ref (.k (.host (h _ ()) (h _ ()) (h _ ())) (.k (.valO lg) (.k (.l .z) (.k (.log lg) k))))
def CF(nd:Nd)(bg:Nat):eK:=[some ⟨[.nd nd],bg,[]⟩]
theorem AZ{b:Bs}{lim st:Nat}{s:Str}{lg:List LE}{EI:eZ}{nd:Nd}{bg:Nat}(G:dI b)(hs:s.length<=8)(hlim:lim<990){x:yu×eK×List LE×Nat}{rz:Prop}(SX:(∃p l t,x=(yu.raised,p,l,t))->rz/\ik b EI)(hb:bg<=s.length)(hl:lg.length<=st)(A':st<1000)
  (h1:ub s lim (lim+2) (CF nd bg) lg st=some x):dL ((C b).at 80) EI rz eW 5 (yR lim st lg nd s bg [] (.list true [.tup [.tup [d6 0 nd,.none],.int true (bg:Int),.tup []]]) []) (Ew lim nd s bg x) (D8 lim x):=by
 refine dL.entry (H':=yR lim st lg nd s bg [] (.stk ((CF nd bg).map lZ) []) []) (dg.to (l:=[0,1,2,3,4,5,6]) rfl rfl
  (.U () (.five () .z) (.toStk (.k (.t (.k (.t (.k (.nd (by rfl) nd) (.k .n .z))) (.k .i (.k (.t .z) .z)))) .z)) .z)) ?_
 exact DR (p:=CF nd bg) G hs hlim SX h1 ⟨λt m=>by
  cases aj.mp m;exact⟨hb,aJ _⟩,aC (aJ _),hl,A'⟩
nonrec theorem Gm{b:Bs}{lim st:Nat}{s:Str}{lg:List LE}{nd:Nd}{bg:Nat}(G:dI b)(hs:s.length<=8)(hlim:lim<990){x:yu×eK×List LE×Nat}(hb:bg<=s.length)(hl:lg.length<=st)(A':st<1000)(h1:ub s lim (lim+2) (CF nd bg) lg st=some x)(hr:∀p l t,x≠(.raised,p,l,t)):Ct b 100 601 [d6 0 nd,.str true s,.int true (bg:Int),.obj 1] (nE lim st lg []) (MI 5 x.1) (nE lim x.2.2.2 x.2.2.1 (JL x.1)):=by
 have L:=AZ (EI:=λI I I=>True) (rz:=False) G hs hlim (λ⟨p,l,t,e⟩=>absurd e (hr p l t)) hb hl A' h1;obtain⟨y,p',G',C'⟩:=x;cases y with
 |raised=>exact absurd rfl (hr p' G' C')
 |none=>exact dF G (r:=80) (n:=20) (l₀:=[]) [0,1,2,3,4] (Cg ..) ⟨dL.normal L,N4⟩ (.Q () .z) .n
 |lost k=>exact dF G (r:=80) (n:=20) (l₀:=[]) [0,1,2,3,4] (Bc ..) ⟨dL.normal L,N4⟩ (.Q () .z) .s
 |fin a ns=>exact dF G (r:=80) (n:=20) (l₀:=[]) [0,1,2,3,4,7] (Ec ..) ⟨dL.normal L,N4⟩ (.Q () (.k (.l (.nps (by rfl) ns)) .z)) (.t (.k .i (.k (.o (by rfl)) .z)))
theorem GB{b:Bs}{lim st:Nat}{s:Str}{lg:List LE}{EI:eZ}{nd:Nd}{bg:Nat}(G:dI b)(hs:s.length<=8)(hlim:lim<990)(hb:bg<=s.length)(hl:lg.length<=st)(A':st<1000)(SX:ik b EI){p':eK}{G':List LE}{C':Nat}(h1:ub s lim (lim+2) (CF nd bg) lg st=some (.raised,p',G',C')):
  eU ((C b).at 100) EI 601 [d6 0 nd,.str true s,.int true (bg:Int),.obj 1] (nE lim st lg []) (nE lim C' G' []):=by
 have L:=AZ (EI:=EI) (rz:=True) G hs hlim (λI=>⟨N4,SX⟩) hb hl A' h1;exact kW G (r:=80) (n:=20) (l₀:=[]) (l₁:=[]) [0,1,2,3,4] (zJ ..) ⟨dL.raises L (λI I h=>h),N4⟩ (.Q () .z)
/-! match_plain -/
def CD(s:Str)(nd:Nd)(lim:Nat):Nat->Nat->List LE->Nat->Option (l7×List LE×Nat)
 |0,_,lg,st=>some (.nope 0,lg,st)
 |n+1,j,lg,st=>match ub s lim (lim+2) (CF nd j) lg st with
  |none=>none
  |some (.none,_,lg,st)=>CD s nd lim n (j+1) lg st
  |some (.lost _,_,lg,st)=>some (.nope 1,lg,st)
  |some (.fin a ns,_,lg,st)=>some (.met j a ns,lg,st)
  |some (.raised,_,lg,st)=>some (.raised,lg,st)
theorem wk(s:Str)(nd:Nd)(lim n j:Nat)(lg:List LE)(st:Nat):CD s nd lim (n+1) j lg st=match ub s lim (lim+2) (CF nd j) lg st with
  |none=>none
  |some (.none,_,lg,st)=>CD s nd lim n (j+1) lg st
  |some (.lost _,_,lg,st)=>some (.nope 1,lg,st)
  |some (.fin a ns,_,lg,st)=>some (.met j a ns,lg,st)
  |some (.raised,_,lg,st)=>some (.raised,lg,st):=rfl
theorem Jp{s:Str}{lim:Nat}(hlim:lim<990){y:yu}{p':eK}{G':List LE}{C':Nat}(nr:y≠ .raised)(n:Nat):∀{p:eK} {lg:List LE} {st:Nat},ub s lim n p lg st=some (y,p',G',C')->st<=lim->vZ s p lg st->C'<=lim/\G'.length<=C':=by
 induction n with
 |zero=>intro p lg st h;injection h
 |succ n ih=>
  intro p lg st h hs tb;cases p with
  |nil=>injection h;exact⟨hs,tb.lgb⟩
  |cons t p=>
   cases t with
   |none=>injection h;exact⟨hs,tb.lgb⟩
   |some t=>
    rw[jl] at h;have kt:=tb.at_ t (.head _);have tb':vZ s p lg st:=⟨λt m=>tb.at_ t (.tail _ m),cJ tb.pl,tb.lgb,tb.stb⟩
    cases hi:ko s lim (lim+2) t.ch t.at_ t.ns p lg st with
    |none=>rw[hi] at h;injection h
    |some q=>
     obtain⟨z,p1,L',st1⟩:=q;rw[hi] at h;have k:=Ae hlim _ hi tb' kt.1 kt.2;cases z with
     |raised i r=>cases h;exact absurd rfl nr
     |brk i r=>exact ih h ((k (λI I z=>by injection z)).2 hs) (k (λI I z=>by injection z)).1.1
     |lost=>injection h;exact⟨(k (λI I z=>by injection z)).2 hs,(k (λI I z=>by injection z)).1.1.lgb⟩
     |fin a ns=>injection h;exact⟨(k (λI I z=>by injection z)).2 hs,(k (λI I z=>by injection z)).1.1.lgb⟩
abbrev Hy(nd:Nd)(s:Str)(an:Bool)(tl:List (Nm×V)):O:=.frame (iN (d6 0 nd) s an tl)
def KS(lim:Nat)(nd:Nd)(s:Str)(an:Bool)(x:l7×List LE×Nat)(fl:Fl)(σ:List O):Prop:=match x with
 |(.nope 0,lg,st)=>fl= .next/\σ=nE lim st lg [Hy nd s an []]
 |(.nope (_+1),lg,st)=>fl= .ret .none/\σ=nE lim st lg [.frame []]
 |(.met j e ns,lg,st)=>fl= .ret (.tup [.int true (j:Int),.int true (e:Int),.obj 6])/\σ=nE lim st lg [.frame [],.list true (ns.map iB)]
 |(.raised,_,_)=>False
def Ke(lim:Nat)(x:l7×List LE×Nat)(σ:List O):Prop:=match x with
 |(.raised,lg,st)=>σ=nE lim st lg [.frame []]
 |_=>False
def MP(lim:Nat)(nd:Nd)(s:Str)(an:Bool)(x:l7×List LE×Nat)(n j:Nat)(σ:List O):Prop:=
 ∃lg st,σ=nE lim st lg [Hy nd s an []]/\CD s nd lim (n - j) j lg st=some x/\lg.length<=st/\st<=lim
theorem FrR.mp{s:Str}{nd:Nd}{an:Bool}{f:Nat->Option Nat}{tl:List (Nm×V)}(h:∀i,i<5->f i=some i):FrR f (iN (d6 0 nd) s an tl) (iN (d6 0 nd) s an []):=
 .k rfl (.nd (h _ ()) nd) (.k rfl .s (.k rfl .b (.k rfl (.o (h _ ())) .z)))
nonrec theorem vU{b:Bs}{lim st:Nat}{s:Str}{lg:List LE}{nd:Nd}{bg:Nat}(G:dI b)(hs:s.length<=8)(hlim:lim<990){x:yu×eK×List LE×Nat}(hb:bg<=s.length)(hl:lg.length<=st)(A':st<1000)(h1:ub s lim (lim+2) (CF nd bg) lg st=some x)(hr:∀p l t,x≠(.raised,p,l,t))(f1 f2:O):Ct b 100 601 [d6 0 nd,.str true s,.int true (bg:Int),.obj 1] (nE lim st lg [f1,f2]) (MI 7 x.1) (nE lim x.2.2.2 x.2.2.1 (f1::f2::JL x.1)):=by
 have T:=Gm (b:=b) G hs hlim hb hl A' h1 hr;obtain⟨y,p',G',C'⟩:=x;have q:=fJ.frame (l:=[0,1,2,3,4]) (os:=nE lim st lg [f1,f2]) (I':=nE lim st lg []) (news:=nE lim C' G' (JL y)) (vs:=[d6 0 nd,.str true s,.int true (bg:Int),.obj 1]) (w:=MI 7 y) rfl T rfl ()
  (.Q () .z) (.k (.nd (by rfl) nd) (.k .s (.k .i (.k (.o rfl) .z)))) (.Q (rg rfl) (by cases y<;>first | exact .z | exact .k (.l (.nps (by rfl) _)) .z))
  (by cases y<;>first | exact .n | exact .s | exact .t (.k .i (.k (.o (by rfl)) .z)))
 cases y<;>exact q
theorem ER{b:Bs}{lim st:Nat}{s:Str}{lg:List LE}{EI:eZ}{nd:Nd}{bg:Nat}(G:dI b)(hs:s.length<=8)(hlim:lim<990)(hb:bg<=s.length)(hl:lg.length<=st)(A':st<1000)(SX:ik b EI){p':eK}{G':List LE}{C':Nat}(h1:ub s lim (lim+2) (CF nd bg) lg st=some (.raised,p',G',C'))(f1 f2:O):
  eU ((C b).at 100) EI 601 [d6 0 nd,.str true s,.int true (bg:Int),.obj 1] (nE lim st lg [f1,f2]) (nE lim C' G' [f1,f2]):=by
 have q:=eU.frame (l:=[0,1,2,3,4]) (os:=nE lim st lg [f1,f2]) (I':=nE lim st lg []) (news:=nE lim C' G' []) (vs:=[d6 0 nd,.str true s,.int true (bg:Int),.obj 1]) rfl (GB G hs hlim hb hl A' SX h1) rfl ()
  (.Q () .z) (.k (.nd (by rfl) nd) (.k .s (.k .i (.k (.o rfl) .z)))) (.Q (rg rfl) .z)
 exact q
nonrec theorem FJ{b:Bs}{lim st:Nat}{s:Str}{lg:List LE}{EI:eZ}{n j:Nat}{rz:Prop}{{nd:Nd}}{{an:Bool}}{{x:l7×List LE×Nat}}(G:dI b)(hs:s.length<=8)(hlim:lim<990)(SX:(∃l t,x=(l7.raised,l,t))->rz/\ik b EI)(hj:j<n)(hn:n<=s.length+1)(h1:CD s nd lim (n - j) j lg st=some x)(hl:lg.length<=st)(A':st<=lim):
  iC (C b) 100 (fe [601]) (fe [601]) EI rz 30 6 (d0 fN) 5 (nE lim st lg [Hy nd s an [(dB,.int true (j:Int))]]) (KS lim nd s an x) (Ke lim x) (MP lim nd s an x n (j+1)):=by
 rw[show n - j=(n - (j+1))+1 from by omega,wk] at h1;have hb:j<=s.length:=by omega
 have hst':st<1000:=by omega
 have tb:vZ s (CF nd j) lg st:=⟨λt m=>by cases aj.mp m;exact⟨hb,aJ _⟩,aC (aJ _),hl,hst'⟩
 cases hm:ub s lim (lim+2) (CF nd j) lg st with
 |none=>rw[hm] at h1;injection h1
 |some q=>
  obtain⟨y,p',G',C'⟩:=q;rw[hm] at h1;cases y with
  |raised=>
   have h1:=(ac h1).symm;subst h1;obtain⟨z1,z2⟩:=SX ⟨_,_,rfl⟩;exact og z1 [0,1,2,3,4,5] (yF ..) ⟨ER G hs hlim hb hl hst' z2 hm _ _,N4⟩ (.Q () (.k (.f .z) .z)) rfl
  |none=>
   have bd:=Jp hlim (λz=>by injection z) _ hm A' tb;exact eQ [0,1,2,3,4,5] (B3 ..) ⟨vU G hs hlim hb hl hst' hm (λI I I z=>by cases z) _ _,N4⟩
    (.Q () (.k (.f (.mp (tl:=[(dB,.int true (j:Int)),(dj,.none)]) ())) .z)) ⟨G',C',rfl,h1,bd.2,bd.1⟩
  |lost k=>
   have h1:=(ac h1).symm;subst h1;exact fT [0,1,2,3,4,5] (Cn ..) ⟨vU G hs hlim hb hl hst' hm (λI I I z=>by cases z) _ _,N4⟩
    (.Q () (.k (.f .z) .z)) .n ⟨rfl,rfl⟩
  |fin a ns=>
   have h1:=(ac h1).symm;subst h1;exact fT [0,1,2,3,4,5,7] (EJ ..) ⟨vU G hs hlim hb hl hst' hm (λI I I z=>by cases z) _ _,N4⟩
    (.Q () (.k (.f .z) (.k (.l (.nps (by rfl) ns)) .z))) (.t (.k .i (.k .i (.k (.o (by rfl)) .z)))) ⟨rfl,rfl⟩
nonrec theorem Ax{b:Bs}{lim st:Nat}{s:Str}{lg:List LE}{EI:eZ}{rz:Prop}{{nd:Nd}}{{an:Bool}}{{x:l7×List LE×Nat}}(G:dI b)(hs:s.length<=8)(hlim:lim<990)(SX:(∃l t,x=(l7.raised,l,t))->rz/\ik b EI)(h1:CD s nd lim (dK s an) 0 lg st=some x)(hl:lg.length<=st)(A':st<=lim):
  dL ((C b).at (30+100)) EI rz fN 5 (nE lim st lg [Hy nd s an []]) (KS lim nd s an x) (Ke lim x):=by
 have K:=dD G (l:=[601]) ();have hi:uB ((C b).at (30+100)) (.call (.glb gL) [(.ite (.loc cT) (.cst (.int 1)) (.bin .Add (.call (.glb fU) [(.loc cS)]) (.cst (.int 1))))]) 5 (nE lim st lg [Hy nd s an []]) (.rng (dK s an)) (nE lim st lg [Hy nd s an []]):=by
  cases an with
  |true=>exact iz (c:=C b) (st:=⟨nE lim st lg [Hy nd s true []],[],[]⟩) (ch:=[]) (y:=false) (m:=1) G.X G.F K rfl (by rfl) (λI m=>by cases m) ()
  |false=>exact iz (c:=C b) (st:=⟨nE lim st lg [Hy nd s false []],[],[s.length<2^20]⟩) (ch:=[]) (y:=true) (m:=s.length+1) G.X G.F K rfl (by rfl) (λI m=>by cases m with | head=>show s.length<2^20;omega | tail _ m=>cases m) (by omega)
 have hn:dK s an<=s.length+1:=by unfold dK;split<;>omega
 show dL _ _ _ (.for dB (.call (.glb gL) [(.ite (.loc cT) (.cst (.int 1)) (.bin .Add (.call (.glb fU) [(.loc cS)]) (.cst (.int 1))))]) (d0 fN)) _ _ _ _;refine rL (c:=C b) (k:=6) (N2:=.rng (dK s an)) G.X G.F K (dD G (l:=[601]) ()) (orc':=fe [601]) (ao _) hi (by intro z;injection z)
  (MP lim nd s an x (dK s an)) ⟨lg,st,rfl,h1,hl,A'⟩ (λi xs z=>by injection z) (λj σ hI=>by show dK s an<2^60;omega) (λj σ v hI hv=>?_) (λσ hI=>?_)
 .obtain⟨lg,st,rfl,h1,hl,A'⟩:=hI
  have hv:(if j<dK s an then some (V.int true (j:Nat)) else none)=some v:=hv
  by_cases z:j<dK s an
  .rw[if_pos z] at hv
   cases hv;exact⟨⟨nE lim st lg [Hy nd s an [(dB,.int true (j:Int))]],[],[]⟩,rfl,FJ G hs hlim SX z hn h1 hl A'⟩
  .rw[if_neg z] at hv;injection hv
 .obtain⟨lg,st,rfl,h1,hl,A'⟩:=hI
  have h1:CD s nd lim (dK s an - dK s an) (dK s an) lg st=some x:=h1;rw[Nat.sub_self] at h1;have h1:=(ac h1).symm;subst h1;exact⟨some,dg.id ⟨rfl,rfl⟩⟩
nonrec theorem F0{b:Bs}{lim st:Nat}{s:Str}{lg:List LE}{nd:Nd}{an:Bool}{{x:l7×List LE×Nat}}(G:dI b)(hs:s.length<=8)(hlim:lim<990)(h1:CD s nd lim (dK s an) 0 lg st=some x)(hl:lg.length<=st)(A':st<=lim)(hr:∀l t,x≠(.raised,l,t)):
  Ct b 160 587 [d6 0 nd,.str true s,.bool an,.obj 1] (nE lim st lg []) (D0 5 x.1) (nE lim x.2.2 x.2.1 (tc x.1)):=by
 have L:=Ax (EI:=λI I I=>True) (rz:=False) G hs hlim (λ⟨l,t,e⟩=>absurd e (hr l t)) h1 hl A';obtain⟨r,G',C'⟩:=x;refine fJ.more (c:=C b) (r:=150) ?_ ();cases r with
 |nope k=>
  match k,L with
  |0,L=>exact dF G (r:=130) (n:=20) (l₀:=[]) [0,1,2,3,4] (KL ..) ⟨dL.normal L,N4⟩ (.Q () .z) .n
  |k+1,L=>exact dF G (r:=130) (n:=20) (l₀:=[]) [0,1,2,3,4] (Ks ..) ⟨dL.normal L,N4⟩ (.Q () .z) .n
 |met j e ns=>exact dF G (r:=130) (n:=20) (l₀:=[]) [0,1,2,3,4,6] (K3 ..) ⟨dL.normal L,N4⟩ (.Q () (.k (.l (.nps (by rfl) _)) .z)) (.t (.k .i (.k .i (.k (.o (by rfl)) .z))))
 |raised=>exact absurd rfl (hr G' C')
theorem HC{b:Bs}{lim st:Nat}{s:Str}{lg:List LE}{EI:eZ}{nd:Nd}{an:Bool}(G:dI b)(hs:s.length<=8)(hlim:lim<990)(SX:ik b EI){G':List LE}{C':Nat}(h1:CD s nd lim (dK s an) 0 lg st=some (.raised,G',C'))(hl:lg.length<=st)(A':st<=lim):
  eU ((C b).at 150) EI 587 [d6 0 nd,.str true s,.bool an,.obj 1] (nE lim st lg []) (nE lim C' G' []):=by
 have L:=Ax (EI:=EI) (rz:=True) G hs hlim (λI=>⟨N4,SX⟩) h1 hl A';exact kW G (r:=130) (n:=20) (l₀:=[]) (l₁:=[]) [0,1,2,3,4] (Kl ..) ⟨dL.raises L (λI I h=>h),N4⟩ (.Q () .z)
end
theorem rj{a b:Str}(h:a.cps.toList=b.cps.toList):a=b:=by
 cases a;cases b;exact az Str.mk (Array.toList_inj.mp h)
theorem vt(c d:Nat):Txt.contains ⟨#[c]⟩ ⟨#[d]⟩=decide (d=c):=by
 unfold Txt.contains;rw[StrLaws.found_one];simp
theorem Fo(s:Str){a:Nat}(h:a<s.length):(s.cps.toList.drop a).take 1=[s.cps.getD a 0]:=by
 have:a<s.cps.toList.length:=h;rw[List.drop_eq_getElem_cons this];simp [Array.getD,show a<s.cps.size from h]
nonrec theorem th{a c:Nat}(s:Str)(ha:a<=s.length):eB s a (.txt ⟨#[c]⟩)=if s.length<a+1 then none else match Txt.contains ⟨#[c]⟩ (gH s a) with | true=>some (a+1) | false=>none:=by
 show(if cut s a (a+1)=⟨#[c]⟩ then some (a+1) else none)=_
 by_cases h:s.length<a+1
 .rw[if_pos h,if_neg]
  intro e;have:=rA s (aA a 1) ha;rw[e] at this;exact absurd (o40 ha this) (Nat.not_le.mpr h)
 .rw[if_neg h]
  unfold gH;rw[vt];have hl:(cut s a (a+1)).cps.toList=[s.cps.getD a 0]:=by
   rw[ji s (aA a 1) ha,show a+1 - a=1 from by omega];exact Fo s (by omega)
  by_cases e:s.cps.getD a 0=c
  .rw[if_pos (rj (by rw[hl,e]))]
   rw[av e]
  .rw[if_neg (λz=>e ?_)]
   .rw[ag e]
   .rw[z] at hl
    have:[c]=[s.cps.getD a 0]:=hl;exact(List.cons.inj this).1.symm
theorem GL(s u t:Str){a:Nat}(ha:a<=s.length):cut s a (a+(u++t).length)=u++t↔cut s a (a+u.length)=u/\cut s (a+u.length) (a+u.length+t.length)=t:=by
 have ul:(u++t).length=u.length+t.length:=by show(u.cps++t.cps).size=_;rw[cK];rfl
 have utl:(u++t).cps.toList=u.cps.toList++t.cps.toList:=by show(u.cps++t.cps).toList=_;simp
 rw[ul];constructor
 .intro e
  have l1:=rA s (aA a (u.length+t.length)) ha;rw[e,ul] at l1;have hau:a+u.length<=s.length:=ax (bx (aA _ _) a) (o40 ha l1);have h1:=ji s (aA a (u.length+t.length)) ha;rw[e,utl,show a+(u.length+t.length) - a=u.length+t.length from by omega,List.take_add] at h1;have hu:((s.cps.toList.drop a).take u.length).length=u.cps.toList.length:=by
   rw[cc,List.length_drop];exact Nat.min_eq_left (Nat.le_sub_of_add_le' hau)
  obtain⟨q1,q2⟩:=List.append_inj h1 hu.symm;refine⟨rj ?_,rj ?_⟩
  .rw[ji s (aA _ _) ha,show a+u.length - a=u.length from by omega];exact q1.symm
  .rw[ji s (aA _ _) (by omega),show a+u.length+t.length - (a+u.length)=t.length from by omega,q2,List.drop_drop]
 .rintro⟨e1,e2⟩
  have l1:=rA s (aA a u.length) ha;rw[e1] at l1;have h1:=ji s (aA a u.length) ha
  by_cases hz:a+u.length<=s.length
  .have h2:=ji s (aA (a+u.length) t.length) hz
   rw[e1,show a+u.length - a=u.length from by omega] at h1;rw[e2,show a+u.length+t.length - (a+u.length)=t.length from by omega] at h2;refine rj ?_;rw[ji s (aA _ _) ha,utl,h1,h2,show a+(u.length+t.length) - a=u.length+t.length from by omega,List.take_add,List.drop_drop]
  .exact absurd (o40 ha l1) hz
def wb:gw->HZ
 | .ca=>.txt sA
 | .cb=>.txt sB
 | .len1=>.len 1
 | .len0=>.len 0
 |_=>.any
def AA:gw->Bool
 | .fail=>false
 | .fence=>false
 | .abort=>false
 |_=>true
theorem mB{s:Str}{a:Nat}(ha:a<=s.length){b:gw}(hb:AA b):eX s a b=eB s a (wb b):=by
 cases b with
 |ca=>exact(th s ha).symm
 |cb=>exact(th s ha).symm
 |len1=>
  show(if s.length<a+1 then none else some (a+1))=(if a+1<=s.length then some (a+1) else none)
  by_cases h:s.length<a+1
  .rw[if_pos h,if_neg (by omega)]
  .rw[if_neg h,if_pos (by omega)]
 |len0=>
  show(if s.length<a+0 then none else some (a+0))=(if a+0<=s.length then some (a+0) else none)
  by_cases h:s.length<a+0
  .rw[if_pos h,if_neg (by omega)]
  .rw[if_neg h,if_pos (by omega)]
 |any=>
  show(if s.length<a+1 then none else match Txt.contains lW (gH s a) with | true=>some (a+1) | false=>none)=(if a<s.length then(match Txt.contains lW (gH s a) with | true=>some (a+1) | false=>none) else none)
  by_cases h:s.length<a+1
  .rw[if_pos h,if_neg (by omega)]
  .rw[if_neg h,if_pos (by omega)]
 |_=>cases hb
def jV(x:fP×List LE)(g:Nat->List Str->Bool->List LE->fP×List LE):fP×List LE:=match x with
 |(.ok a ns f,lg)=>g a ns f lg
 |(.over,lg)=>(.over,lg)
 |(.no,lg)=>(.no,lg)
theorem pQ(s:Str)(p:dZ)(ps:List dZ)(a:Nat)(f:Bool)(ns:List Str)(lg:List LE):d3 s (p::ps) a f ns lg=jV (d3 s [p] a f ns lg) λa ns f lg=>d3 s ps a f ns lg:=by
 cases p with
 |cur=>rfl
 |mk m b=>
  rw[jg,jg];cases eh b with
  |true=>rfl
  |false=>
   cases eX s a b with
   |none=>cases f<;>rfl
   |some e=>cases m<;>rfl
def iX(f:Bool):fP:=if f then .over else .no
def fZ(s:Str):List Pc->Nat->Bool->List Str->List LE->fP×List LE
 |[],a,f,ns,lg=>(.ok a ns f,lg)
 | .txt t::ps,a,f,ns,lg=>match eB s a (.txt t) with
  |none=>(iX f,lg)
  |some e=>fZ s ps e f ns lg
 | .lf .suc::_,_,_,_,lg=>(.no,lg)
 | .lf (.part p)::ps,a,f,ns,lg=>jV (d3 s [p] a f ns lg) λa ns f lg=>fZ s ps a f ns lg
theorem xB(x:fP×List LE)(g h:Nat->List Str->Bool->List LE->fP×List LE):jV (jV x g) h=jV x λa ns f lg=>jV (g a ns f lg) h:=by
 obtain⟨r,lg⟩:=x;cases r<;>rfl
theorem oQ(s:Str):∀(p q:List Pc) (a:Nat) (f:Bool) (ns:List Str) (lg:List LE),fZ s (p++q) a f ns lg=jV (fZ s p a f ns lg) λa ns f lg=>fZ s q a f ns lg
 |[],q,a,f,ns,lg=>rfl
 | .txt t::p,q,a,f,ns,lg=>by
  show(match eB s a (.txt t) with | none=>(iX f,lg) | some e=>fZ s (p++q) e f ns lg)=jV (match eB s a (.txt t) with | none=>(iX f,lg) | some e=>fZ s p e f ns lg) _;cases eB s a (.txt t) with
  |none=>cases f<;>rfl
  |some e=>exact oQ s p q e f ns lg
 | .lf .suc::p,q,a,f,ns,lg=>rfl
 | .lf (.part x)::p,q,a,f,ns,lg=>by
  show jV (d3 s [x] a f ns lg) (λa ns f lg=>fZ s (p++q) a f ns lg)=jV (jV (d3 s [x] a f ns lg) λa ns f lg=>fZ s p a f ns lg) _;rw[xB];congr 1;funext a ns f lg;exact oQ s p q a f ns lg
theorem uP(s:Str):∀(p:List Pc) {a:Nat} {f:Bool} {ns:List Str} {lg:List LE} {e:Nat} {ms:List Str} {g:Bool} {G':List LE},fZ s p a f ns lg=(.ok e ms g,G')->a<=s.length->e<=s.length
 |[],_,_,_,_,_,_,_,_,h,ha=>by cases h;exact ha
 | .txt t::p,a,f,ns,lg,e,ms,g,G',h,ha=>by
  have h:(match eB s a (.txt t) with | none=>(iX f,lg) | some e=>fZ s p e f ns lg)=(.ok e ms g,G'):=h;cases c:eB s a (.txt t) with
  |none=>rw[c] at h;cases f<;>cases h
  |some e'=>rw[c] at h;exact uP s p h (kR ha c)
 | .lf .suc::p,_,_,_,_,_,_,_,_,h,_=>by cases h
 | .lf (.part x)::p,a,f,ns,lg,e,ms,g,G',h,ha=>by
  have h:jV (d3 s [x] a f ns lg) (λa ns f lg=>fZ s p a f ns lg)=(.ok e ms g,G'):=h;cases c:d3 s [x] a f ns lg with
  |mk r l1=>
   rw[c] at h;cases r with
   |ok a1 n1 f1=>exact uP s p h (lB s [x] a f ns lg c ha).1
   |over=>cases h
   |no=>cases h
def kq(l:Lf):Pc:=match iD l with
 |some t=>.txt t
 |none=>.lf l
theorem By(s u t:Str)(ps:List Pc){a:Nat}(ha:a<=s.length)(f:Bool)(ns:List Str)(lg:List LE):fZ s (.txt (u++t)::ps) a f ns lg=fZ s (.txt u:: .txt t::ps) a f ns lg:=by
 show(match(if cut s a (a+(u++t).length)=u++t then some (a+(u++t).length) else none) with | none=>(iX f,lg) | some e=>fZ s ps e f ns lg)=
  (match(if cut s a (a+u.length)=u then some (a+u.length) else none) with | none=>(iX f,lg) | some e=>match(if cut s e (e+t.length)=t then some (e+t.length) else none) with | none=>(iX f,lg) | some e=>fZ s ps e f ns lg)
 have k:=GL s u t ha;have ul:(u++t).length=u.length+t.length:=by show(u.cps++t.cps).size=_;rw[cK];rfl
 by_cases c1:cut s a (a+u.length)=u
 .rw[if_pos c1]
  by_cases c2:cut s (a+u.length) (a+u.length+t.length)=t
  .rw[if_pos (k.mpr ⟨c1,c2⟩)]
   show fZ s ps (a+(u++t).length) f ns lg=(match(if cut s (a+u.length) (a+u.length+t.length)=t then some (a+u.length+t.length) else none) with | none=>(iX f,lg) | some e=>fZ s ps e f ns lg)
   rw[if_pos c2,ul,bQ]
  .rw[if_neg (λz=>c2 (k.mp z).2)]
   show(iX f,lg)=(match(if cut s (a+u.length) (a+u.length+t.length)=t then some (a+u.length+t.length) else none) with | none=>(iX f,lg) | some e=>fZ s ps e f ns lg)
   rw[if_neg c2]
 .rw[if_neg c1,if_neg (λz=>c1 (k.mp z).1)]
theorem tY(s:Str):∀(ls:List Lf) (B':List Pc) {a:Nat} (ha:a<=s.length) (f:Bool) (ns:List Str) (lg:List LE),fZ s (ls.foldl eY B').reverse a f ns lg=fZ s (B'.reverse++ls.map kq) a f ns lg
 |[],B',a,ha,f,ns,lg=>by rw[List.map_nil,aQ];rfl
 |l::ls,B',a,ha,f,ns,lg=>by
  show fZ s (ls.foldl eY (eY B' l)).reverse a f ns lg=_;rw[tY s ls (eY B' l) ha];show _=fZ s (B'.reverse++(kq l::ls.map kq)) a f ns lg;have hl:kq l=(match iD l with | some t=>.txt t | none=>.lf l):=rfl;rw[hl];cases tx:iD l with
  |none=>rw[iw tx];simp only[bu,aw,List.cons_append,cP]
  |some t=>
   rw[gp tx];cases B' with
   |nil=>rfl
   |cons q r=>
    cases q with
    |lf l2=>show fZ s ((Pc.txt t::Pc.lf l2::r).reverse++ls.map kq) a f ns lg=fZ s ((Pc.lf l2::r).reverse++Pc.txt t::ls.map kq) a f ns lg;simp only[bu,aw,List.cons_append,cP]
    |txt u=>
     show fZ s ((Pc.txt (u++t)::r).reverse++ls.map kq) a f ns lg=fZ s ((Pc.txt u::r).reverse++Pc.txt t::ls.map kq) a f ns lg;simp only[bu,aw,List.cons_append,cP];rw[oQ,oQ s r.reverse];cases c:fZ s r.reverse a f ns lg with
     |mk y l1=>
      cases y with
      |ok a1 n1 f1=>
       show fZ s (.txt (u++t)::ls.map kq) a1 f1 n1 l1=fZ s (.txt u:: .txt t::ls.map kq) a1 f1 n1 l1;exact By s u t _ (uP s _ c ha) f1 n1 l1
      |over=>show(fP.over,l1)=(fP.over,l1);rfl
      |no=>show(fP.no,l1)=(fP.no,l1);rfl
theorem rJ(s:Str):∀(ps:List dZ) {a:Nat} (ha:a<=s.length) (f:Bool) (ns:List Str) (lg:List LE),fZ s (ps.map λp=>kq (.part p)) a f ns lg=d3 s ps a f ns lg
 |[],a,ha,f,ns,lg=>rfl
 |p::ps,a,ha,f,ns,lg=>by
  have gen:kq (.part p)= .lf (.part p)->fZ s ((p::ps).map λp=>kq (.part p)) a f ns lg=d3 s (p::ps) a f ns lg:=λe=>by
   show fZ s (kq (.part p)::ps.map λp=>kq (.part p)) a f ns lg=_;rw[e,pQ];show jV (d3 s [p] a f ns lg) (λa ns f lg=>fZ s (ps.map λp=>kq (.part p)) a f ns lg)=_;cases c:d3 s [p] a f ns lg with
   |mk y l1=>
    cases y with
    |ok a1 n1 f1=>exact rJ s ps (lB s [p] a f ns lg c ha).1 f1 n1 l1
    |over=>rfl
    |no=>rfl
  have txt:∀(b:gw) (t:Str),AA b=true->wb b= .txt t->fI b=false->eh b=false->p= .mk .bare b->kq (.part p)= .txt t->fZ s ((p::ps).map λp=>kq (.part p)) a f ns lg=d3 s (p::ps) a f ns lg:=λb t h1 h2 h3 h4 h5 h6=>by
   show fZ s (kq (.part p)::ps.map λp=>kq (.part p)) a f ns lg=_;rw[h6,h5,jg,h4,mB ha h1,h2];show(match eB s a (.txt t) with | none=>(iX f,lg) | some e=>fZ s (ps.map λp=>kq (.part p)) e f ns lg)=_;cases c:eB s a (.txt t) with
   |none=>cases f<;>rfl
   |some e=>
    rw[h3];exact rJ s ps (kR ha c) f ns lg
  cases p with
  |cur=>exact gen rfl
  |mk m b=>
   cases m with
   |now=>exact gen rfl
   |later=>exact gen rfl
   |bare=>
    cases b with
    |ca=>exact txt .ca sA rfl rfl rfl rfl rfl rfl
    |cb=>exact txt .cb sB rfl rfl rfl rfl rfl rfl
    |_=>exact gen rfl
theorem Cu(s:Str)(ps:List dZ){a:Nat}(ha:a<=s.length)(f:Bool)(ns:List Str)(lg:List LE):fZ s (eS (ps.map Lf.part)) a f ns lg=d3 s ps a f ns lg:=by
 show fZ s ((ps.map Lf.part).foldl eY []).reverse a f ns lg=_;rw[tY s _ _ ha,List.map_map];exact rJ s ps ha f ns lg
theorem rN:∀(ls:List Lf) (B' base:List Pc),(∀u r,base≠ .txt u::r)->ls.foldl eY (B'++base)=ls.foldl eY B'++base
 |[],_,_,_=>rfl
 |l::ls,B',base,hb=>by
  have e:eY (B'++base) l=eY B' l++base:=by
   cases tx:iD l with
   |none=>rw[iw tx,iw tx];rfl
   |some t=>
    rw[gp tx,gp tx];cases B' with
    |nil=>
     cases base with
     |nil=>rfl
     |cons q r=>
      cases q with
      |txt u=>exact absurd rfl (hb u r)
      |lf l2=>rfl
    |cons q r=>cases q<;>rfl
  show ls.foldl eY (eY (B'++base) l)=ls.foldl eY (eY B' l)++base;rw[e,rN ls _ base hb]
theorem B5(fl bl:List Lf):eS (fl++ .suc::bl)=eS fl++ .lf .suc::eS bl:=by
 unfold eS;rw[List.foldl_append];show(bl.foldl eY ([]++(.lf .suc::fl.foldl eY []))).reverse=_;rw[rN bl [] (.lf .suc::fl.foldl eY []) (λu r z=>by cases z)];simp
section
set_option backward.match.sparseCases false
/-! the machine along a row -/
def i6(s:Str):List fz->Nat->Bool->List Str->List Nat->List LE->Option (fP×List LE)
 |[],a,f,ns,_,lg=>some (.ok a ns f,lg)
 | .one q::r,a,f,ns,ms,lg=>match eB s a q with
  |none=>some (iX f,lg)
  |some e=>i6 s r e f ns ms lg
 | .fail::_,_,f,_,_,lg=>some (iX f,lg)
 | .abort::_,_,_,_,_,lg=>some (.over,lg)
 | .fence::r,a,_,ns,ms,lg=>i6 s r a true ns ms lg
 | .mark::r,a,f,ns,ms,lg=>i6 s r a f ns (a::ms) lg
 | .name::r,a,f,ns,m::ms,lg=>i6 s r a f (ns++[cut s m a]) ms lg
 | .set::r,a,f,ns,m::ms,lg=>i6 s r a f ns ms (lg++[.tx (cut s m a)])
 | .place::r,a,f,ns,ms,lg=>i6 s r a f ns ms (lg++[.at a])
 |_::_,_,_,_,_,_=>none
def Kv(x:fP×List LE)(g:Nat->List Str->Bool->List LE->Option (fP×List LE)):Option (fP×List LE):=match x with
 |(.ok a ns f,lg)=>g a ns f lg
 |(.over,lg)=>some (.over,lg)
 |(.no,lg)=>some (.no,lg)
theorem pY(s:Str)(b:gw)(r:List fz){a:Nat}(ha:a<=s.length)(f:Bool)(ns:List Str)(ms:List Nat)(lg:List LE):
  i6 s (ja b::r) a f ns ms lg=match eh b with
   |true=>some (.over,lg)
   |false=>match eX s a b with
    |none=>some (iX f,lg)
    |some e=>i6 s r e (fI b||f) ns ms lg:=by
 have one:AA b->ja b= .one (wb b)->fI b=false->eh b=false->i6 s (ja b::r) a f ns ms lg=match eh b with
   |true=>some (.over,lg)
   |false=>match eX s a b with
    |none=>some (iX f,lg)
    |some e=>i6 s r e (fI b||f) ns ms lg:=λh1 h2 h3 h4=>by rw[h2,h4,h3,mB ha h1];rfl
 cases b with
 |fail=>rfl
 |abort=>rfl
 |fence=>rfl
 |_=>exact one rfl rfl rfl rfl
theorem BQ(s:Str)(p:dZ)(r:List fz){a:Nat}(ha:a<=s.length)(f:Bool)(ns:List Str)(ms:List Nat)(lg:List LE):
  i6 s (eO (.lf (.part p))++r) a f ns ms lg=Kv (d3 s [p] a f ns lg) λa ns f lg=>i6 s r a f ns ms lg:=by
 cases p with
 |cur=>rfl
 |mk m b=>
  rw[jg];cases m with
  |bare=>
   show i6 s (ja b::r) a f ns ms lg=_;rw[pY s b r ha];cases eh b with
   |true=>rfl
   |false=>
    cases eX s a b with
    |none=>cases f<;>rfl
    |some e=>rfl
  |now=>
   show i6 s (ja b:: .set::r) a f ns (a::ms) lg=_;rw[pY s b _ ha];cases eh b with
   |true=>rfl
   |false=>
    cases eX s a b with
    |none=>cases f<;>rfl
    |some e=>rfl
  |later=>
   show i6 s (ja b:: .name::r) a f ns (a::ms) lg=_;rw[pY s b _ ha];cases eh b with
   |true=>rfl
   |false=>
    cases eX s a b with
    |none=>cases f<;>rfl
    |some e=>rfl
def Ay:List Pc->Bool
 |[]=>true
 | .lf .suc::_=>false
 |_::l=>Ay l
theorem rP(s:Str):∀(l:List Pc) {a:Nat} (ha:a<=s.length) (f:Bool) (ns:List Str) (ms:List Nat) (lg:List LE),Ay l=true->i6 s (l.flatMap eO) a f ns ms lg=some (fZ s l a f ns lg)
 |[],_,_,_,_,_,_,_=>rfl
 | .txt t::l,a,ha,f,ns,ms,lg,h=>by
  show(match eB s a (.txt t) with | none=>some (iX f,lg) | some e=>i6 s (l.flatMap eO) e f ns ms lg)=some (match eB s a (.txt t) with | none=>(iX f,lg) | some e=>fZ s l e f ns lg);cases c:eB s a (.txt t) with
  |none=>rfl
  |some e=>exact rP s l (kR ha c) f ns ms lg h
 | .lf .suc::_,_,_,_,_,_,_,h=>by cases h
 | .lf (.part p)::l,a,ha,f,ns,ms,lg,h=>by
  show i6 s (eO (.lf (.part p))++l.flatMap eO) a f ns ms lg=some (jV (d3 s [p] a f ns lg) λa ns f lg=>fZ s l a f ns lg);rw[BQ s p _ ha];cases c:d3 s [p] a f ns lg with
  |mk y l1=>
   cases y with
   |ok a1 n1 f1=>exact rP s l (lB s [p] a f ns lg c ha).1 f1 n1 ms l1 h
   |over=>show some (fP.over,l1)=some (fP.over,l1);rfl
   |no=>show some (fP.no,l1)=some (fP.no,l1);rfl
theorem jt(s:Str):∀(l:List fz) {a:Nat} {f:Bool} {ns:List Str} {ms:List Nat} {lg:List LE} {y:fP} {G':List LE},i6 s l a f ns ms lg=some (y,G')->lg<+:G'
 |[],_,_,_,_,_,_,_,h=>by cases h;exact aO _
 |o::r,a,f,ns,ms,lg,y,G',h=>by
  cases o with
  |one q=>
   have h:(match eB s a q with | none=>some (iX f,lg) | some e=>i6 s r e f ns ms lg)=some (y,G'):=h;cases c:eB s a q with
   |none=>rw[c] at h;cases h;exact aO _
   |some e=>rw[c] at h;exact jt s r h
  |fail=>cases h;exact aO _
  |abort=>cases h;exact aO _
  |fence=>exact jt s r h
  |mark=>exact jt s r h
  |name=>
   cases ms with
   |nil=>cases h
   |cons m ms=>exact jt s r h
  |set=>
   cases ms with
   |nil=>cases h
   |cons m ms=>exact(b9 _ _).trans (jt s r h)
  |place=>exact(b9 _ _).trans (jt s r h)
  |succeed=>cases h
  |done=>cases h
def AD(h0:Hs)(f:Bool):Hs:=match f with
 |true=>.top .fen
 |false=>h0
def H9(s:Str)(os:List fz)(lim n:Nat)(p:Option Wy)(w':Wy)(h:Hs)(lg:List LE)(st:Nat):Option (iF×List LE×Nat):=match h with
 | .emp=>match p with | none=>some (.failed w',lg,st) | some _=>none
 | .opq=>none
 | .top .fen=>match p with | none=>some (.over w',lg,st) | some _=>none
 | .top (.suc w2)=>fR s os lim n (some (first p w')) w2 .opq lg st
def sZ(s:Str)(os:List fz)(lim:Nat)(h0:Hs)(nm1:List Str)(ln:Nat)(p:Option Wy)(pc st:Nat)(lg:List LE)(y:fP)(G':List LE)(e:Option (iF×List LE×Nat)):Prop:=
  (lim<st+ln/\∃w N3,e=some (.raised w,N3,lim+1)/\lg<+:N3/\N3<+:G')\/
  (match y with
   | .ok a' N0 f'=>∃n' ms',st+ln<=lim/\lim<n'+(st+ln)/\e=fR s os lim n' p ⟨pc+ln,a',N0.reverse++nm1,ms'⟩ (AD h0 f') G' (st+ln)
   | .over=>p=none->∃w C',C'<=st+ln/\e=some (.over w,G',C')
   | .no=>∃k n' w',1<=k/\k<=ln/\st+k<=lim/\lim<n'+(st+k)/\e=H9 s os lim n' p w' h0 G' (st+k))
theorem sZ.step{s:Str}{os:List fz}{lim ln:Nat}{h0:Hs}{nm1:List Str}{p:Option Wy}{pc st:Nat}{lg L' G':List LE}{y:fP}{e:Option (iF×List LE×Nat)}(hp:lg<+:L')(q:sZ s os lim h0 nm1 ln p (pc+1) (st+1) L' y G' e):sZ s os lim h0 nm1 (ln+1) p pc st lg y G' e:=by
 have a1:st+1+ln=st+(ln+1):=bO _ _;rcases q with⟨q1,w,N3,q2,q3,q4⟩ | q
 .exact .inl ⟨a1▸q1,w,N3,q2,hp.trans q3,q4⟩
 .refine .inr ?_
  cases y with
  |ok a' N0 f'=>
   obtain⟨n',ms',q1,q2,q3⟩:=q;exact⟨n',ms',a1▸q1,a1▸q2,by rw[q3,a1,bO]⟩
  |over=>
   intro hp;obtain⟨w,C',q1,q2⟩:=q hp;exact⟨w,C',a1▸q1,q2⟩
  |no=>
   obtain⟨k,n',w',q0,q1,q2,q3,q4⟩:=q;have a2:st+1+k=st+(k+1):=bO _ _;exact⟨k+1,n',w',aG q0,aC q1,a2▸q2,a2▸q3,by rw[q4,a2]⟩
def Mr(s:Str)(os:List fz)(lim:Nat)(h0:Hs)(nm1:List Str)(p:Option Wy)(y:fP)(G':List LE)(r:List fz):Prop:=∀(post:List fz) (n pc a:Nat) (f:Bool) (ns:List Str) (ms:List Nat) (lg:List LE) (st:Nat),
 (∀i,nth os (pc+i)=nth (r++post) i)->i6 s r a f ns ms lg=some (y,G')->st<=lim->lim<n+st->sZ s os lim h0 nm1 r.length p pc st lg y G' (fR s os lim n p ⟨pc,a,ns.reverse++nm1,ms⟩ (AD h0 f) lg st)
theorem Ez(s:Str)(os:List fz)(lim:Nat)(h0:Hs)(nm1:List Str)(p:Option Wy)(y:fP)(G':List LE)(r:List fz):Mr s os lim h0 nm1 p y G' r:=by
 induction r with
 |nil=>
  intro post n pc a f ns ms lg st _ h hs hn;cases h;exact .inr ⟨n,ms,hs,hn,rfl⟩
 |cons o r ih=>
  intro post n pc a f ns ms lg st hos h hs hn;have ho:nth os pc=some o:=hos 0;cases n with
  |zero=>omega
  |succ n=>
   by_cases A':lim<st+1
   .refine .inl ⟨aH A' (bx (aC (aJ _)) _),first p ⟨pc,a,ns.reverse++nm1,ms⟩,lg,?_,aO _,jt s _ h⟩
    show(if lim<st+1 then some (iF.raised (first p ⟨pc,a,ns.reverse++nm1,ms⟩),lg,st+1) else _)=_;rw[if_pos A',Nat.le_antisymm hs (Nat.le_of_lt_succ A')]
   .have hos':∀i,nth os (pc+1+i)=nth (r++post) i:=λi=>(az (nth os) (bO pc i)).trans (hos (i+1))
    have hle:st+1<=lim:=bA A';have hn':lim<n+(st+1):=aH hn (aY (bO n st));generalize hw:(⟨pc,a,ns.reverse++nm1,ms⟩:Wy)=w;have ho:nth os w.pc=some o:=by rw[<-hw];exact ho
    have go:∀(a1:Nat) (f1:Bool) (ns1:List Str) (ms1:List Nat) (L':List LE),eJ o≠gC->eJ o≠eV->ka s o w (AD h0 f) lg=some (true,⟨pc+1,a1,ns1.reverse++nm1,ms1⟩,AD h0 f1,L')->lg<+:L'->
      i6 s r a1 f1 ns1 ms1 L'=some (y,G')->sZ s os lim h0 nm1 (r.length+1) p pc st lg y G' (fR s os lim (n+1) p w (AD h0 f) lg st):=λa1 f1 ns1 ms1 L' k1 k2 hd hp hr=>by
     rw[jP ho k1 k2 A',hd];exact(ih post n (pc+1) a1 f1 ns1 ms1 L' (st+1) hos' hr hle hn').step hp
    have bad:eJ o≠gC->eJ o≠eV->ka s o w (AD h0 f) lg=some (false,w,AD h0 f,lg)->some (iX f,lg)=some (y,G')->sZ s os lim h0 nm1 (r.length+1) p pc st lg y G' (fR s os lim (n+1) p w (AD h0 f) lg st):=λk1 k2 hd hy=>by
     have e:fR s os lim (n+1) p w (AD h0 f) lg st=H9 s os lim n p w (AD h0 f) lg (st+1):=by
      rw[jP ho k1 k2 A',hd];rfl
     rw[e];injection hy;refine .inr ?_;cases f with
     |true=>exact λhp=>⟨_,st+1,bx (aC (aJ _)) _,by rw[hp];rfl⟩
     |false=>exact⟨1,n,w,ao _,aC (aJ _),hle,hn',rfl⟩
    cases o with
    |one q=>
     have h:(match eB s a q with | none=>some (iX f,lg) | some e=>i6 s r e f ns ms lg)=some (y,G'):=h;cases c:eB s a q with
     |none=>
      rw[c] at h;exact bad (show mq≠gC by decide) (show mq≠eV by decide) (by rw[<-hw];show(match eB s a q with | some e=>_ | none=>_)=_;rw[c]) h
     |some e=>
      rw[c] at h;exact go e f ns ms lg (show mq≠gC by decide) (show mq≠eV by decide) (by rw[<-hw];show(match eB s a q with | some e=>_ | none=>_)=_;rw[c]) (aO _) h
    |fail=>exact bad () () rfl h
    |abort=>
     injection h;exact .inr λhp=>⟨w,st+1,bx (aC (aJ _)) _,by rw[nK ho A',hp]⟩
    |fence=>exact go a true ns ms lg () () (by rw[<-hw];rfl) (aO _) h
    |mark=>exact go a f ns (a::ms) lg () () (by rw[<-hw];rfl) (aO _) h
    |name=>
     cases ms with
     |nil=>injection h
     |cons m ms=>exact go a f (ns++[cut s m a]) ms lg () () (by rw[<-hw,List.reverse_append];rfl) (aO _) h
    |set=>
     cases ms with
     |nil=>injection h
     |cons m ms=>exact go a f ns ms _ () () (by rw[<-hw];rfl) (b9 _ _) h
    |place=>exact go a f ns ms _ () () (by rw[<-hw];rfl) (b9 _ _) h
    |succeed=>cases h
    |done=>cases h
theorem vM(s:Str)(os:List fz)(lim:Nat)(h0:Hs)(nm1:List Str)(ords post:List fz){n:Nat}{p:Option Wy}{pc a:Nat}{f:Bool}{ns:List Str}{ms:List Nat}{lg:List LE}{st:Nat}{y:fP}{G':List LE}
  (h1:∀i,nth os (pc+i)=nth (ords++post) i) (h2:i6 s ords a f ns ms lg=some (y,G')) (h3:st<=lim) (h4:lim<n+st):sZ s os lim h0 nm1 ords.length p pc st lg y G' (fR s os lim n p ⟨pc,a,ns.reverse++nm1,ms⟩ (AD h0 f) lg st):=Ez s os lim h0 nm1 p y G' ords post n pc a f ns ms lg st h1 h2 h3 h4
end
/-! the pattern of the law,and the machine's match of it -/
def fh(fp:List dZ):Nd:=fp.foldr (λp n=>.cat (.lf (.part p)) n) (.lf .suc)
def fu(fp bp:List dZ):Nd:=bp.foldl (λn p=>.cat n (.lf (.part p))) (fh fp)
def dc(ps:List dZ):List fz:=(eS (ps.map Lf.part)).flatMap eO
theorem sI:∀fp:List dZ,eI (fh fp)=fp.map Lf.part++[.suc]
 |[]=>rfl
 |p::fp=>by
  show[Lf.part p]++eI (fh fp)=_;rw[sI fp];rfl
theorem sM:∀(bp:List dZ) (n:Nd),eI (bp.foldl (λn p=>.cat n (.lf (.part p))) n)=eI n++bp.map Lf.part
 |[],n=>by simp
 |p::bp,n=>by
  show eI (bp.foldl (λn p=>.cat n (.lf (.part p))) (.cat n (.lf (.part p))))=_;rw[sM bp];show(eI n++[Lf.part p])++bp.map Lf.part=eI n++(Lf.part p::bp.map Lf.part);rw[aw];rfl
theorem oJ(fp bp:List dZ):eA (fu fp bp)=dc fp++ .succeed::(dc bp++[.done]):=by
 unfold eA fu;rw[sM,sI,aw];show(eS (fp.map Lf.part++ .suc::bp.map Lf.part)).flatMap eO++[fz.done]=_;rw[B5,List.flatMap_append,List.flatMap_cons,aw];rfl
theorem uC:∀(ls:List Lf) (B':List Pc) {l:Lf},.lf l∈ls.foldl eY B'->l∈ls\/ .lf l∈B'
 |[],_,_,h=>.inr h
 |l1::ls,B',l,h=>by
  rcases uC ls (eY B' l1) h with m | m
  .exact .inl (.tail _ m)
  .cases tx:iD l1 with
   |none=>
    rw[iw tx] at m;rcases aD.mp m with z | m
    .cases z;exact .inl (.head _)
    .exact .inr m
   |some t=>
    rw[gp tx] at m;cases B' with
    |nil=>
     rcases aD.mp m with z | m
     .cases z
     .cases m
    |cons q r=>
     cases q with
     |txt u=>
      rcases aD.mp m with z | m
      .cases z
      .exact .inr (.tail _ m)
     |lf l2=>
      rcases aD.mp m with z | m
      .cases z
      .exact .inr m
theorem rU:∀{l:List Pc},Pc.lf .suc∉l->Ay l=true
 |[],_=>rfl
 | .txt _::l,h=>rU (l:=l) λm=>h (.tail _ m)
 | .lf .suc::l,h=>absurd (.head _) h
 | .lf (.part p)::l,h=>rU (l:=l) λm=>h (.tail _ m)
theorem Cl(ps:List dZ):Ay (eS (ps.map Lf.part))=true:=rU λm=>by
 rcases uC _ [] (List.mem_reverse.mp m) with m | m
 .obtain⟨p,_,e⟩:=List.mem_map.mp m
  cases e
 .cases m
theorem yI(s:Str)(ps:List dZ){a:Nat}(ha:a<=s.length)(f:Bool)(ns:List Str)(ms:List Nat)(lg:List LE):i6 s (dc ps) a f ns ms lg=some (d3 s ps a f ns lg):=by
 unfold dc;rw[rP s _ ha f ns ms lg (Cl ps),Cu s ps ha]
theorem wI(s:Str)(l0:List LE):∀(ps:List dZ) (a:Nat) (f:Bool) (ns:List Str) (lg:List LE),d3 s ps a f ns (l0++lg)=((d3 s ps a f ns lg).1,l0++(d3 s ps a f ns lg).2):=by
 refine oX (P:=λps a f ns lg x=>d3 s ps a f ns (l0++lg)=(x.1,l0++x.2)) (λI I I I=>rfl) (λps a f ns lg x h=>?_) (λm b ps a f ns lg e=>uU s m b ps a f ns _ e) (λm b ps a f ns lg e k=>u3 s m b ps a f ns _ e k) (λm b ps a f ns lg e x h k z=>(l9 s m b ps a f ns _ h k).trans ?_)
 .rw[<-h,<-aw];rfl
 .rw[<-z]
  cases m with
  |now=>exact az (d3 s ps e _ ns) (aw ..)
  |_=>rfl
theorem jW{α:Type}(l r:List α)(i:Nat):nth (l++r) (l.length+i)=nth r i:=jN l r i
nonrec theorem rounds{s:Str}{os fo bo:List fz}{lim:Nat}{nm:List Str}{ms:List Nat}{a:Nat}{rs:List LE}(hos:os=fo++ .succeed::(bo++[.done]))(hb:∀lg,i6 s bo a false [] ms lg=some (.no,lg++rs))(k:Nat):
  ∀{n st:Nat} {p:Option Wy} {h:Hs} {lg:List LE},lim - st<=k->st<=lim->lim<n+st->
   ∃w N3 m,fR s os lim n p ⟨fo.length,a,nm,ms⟩ h lg st=some (.raised w,N3,lim+1)/\lg<+:N3/\N3<+:lg++(List.replicate m rs).flatten/\m<=lim - st:=by
 induction k with
 |zero=>
  intro n st p h lg hk hs hn;cases n with
  |zero=>omega
  |succ n=>
   refine⟨first p ⟨fo.length,a,nm,ms⟩,lg,0,?_,aO _,by simp,aJ _⟩;show(if lim<st+1 then some (iF.raised (first p ⟨fo.length,a,nm,ms⟩),lg,st+1) else _)=_;have A':lim<st+1:=by omega
   rw[if_pos A',show st=lim from by omega]
 |succ k ih=>
  intro n st p h lg hk hs hn;cases n with
  |zero=>omega
  |succ n=>
   by_cases A':lim<st+1
   .refine⟨first p ⟨fo.length,a,nm,ms⟩,lg,0,?_,aO _,by simp,aJ _⟩
    show(if lim<st+1 then some (iF.raised (first p ⟨fo.length,a,nm,ms⟩),lg,st+1) else _)=_;rw[if_pos A',show st=lim from by omega]
   .have ho:nth os fo.length=some .succeed:=by
     have:=jW fo (.succeed::(bo++[fz.done])) 0;rw[hos];exact this
    have e:fR s os lim (n+1) p ⟨fo.length,a,nm,ms⟩ h lg st=fR s os lim n p ⟨fo.length+1,a,nm,ms⟩ (.top (.suc ⟨fo.length,a,nm,ms⟩)) lg (st+1):=by
     rw[jP (w:=⟨fo.length,a,nm,ms⟩) ho () () A'];rfl
    rw[e];have hseg:∀i,nth os (fo.length+1+i)=nth (bo++[fz.done]) i:=λi=>by
     have:=jW fo (.succeed::(bo++[fz.done])) (i+1);rw[hos,show fo.length+1+i=fo.length+(i+1) from by omega,this];rfl
    rcases vM s os lim (.top (.suc ⟨fo.length,a,nm,ms⟩)) nm bo [.done] (n:=n) (p:=p) (f:=false) (ns:=[]) (ms:=ms) (lg:=lg) (st:=st+1) hseg (hb lg) (by omega) (by omega) with⟨q1,w,N3,q2,q3,q4⟩ | q
    .refine⟨w,N3,1,q2,q3,by simpa using q4,by omega⟩
    .obtain⟨j,n',w',q0,q1,q2,q3,q4⟩:=q
     have q4:fR s os lim n p ⟨fo.length+1,a,nm,ms⟩ (.top (.suc ⟨fo.length,a,nm,ms⟩)) lg (st+1)=fR s os lim n' (some (first p w')) ⟨fo.length,a,nm,ms⟩ .opq (lg++rs) (st+1+j):=q4;rw[q4];obtain⟨w,N3,m,z1,z2,z3,z4⟩:=ih (n:=n') (st:=st+1+j) (p:=some (first p w')) (h:=.opq) (lg:=lg++rs) (by omega) (by omega) q3;refine⟨w,N3,m+1,z1,(b9 _ _).trans z2,?_,by omega⟩;rw[bz,bP,<-aw];exact z3
def nF(lim:Nat)(y:ii)(G':List LE)(e:Option (l7×List LE×Nat)):Prop:=match y with
 | .none _=>∃k C',e=some (.nope k,G',C')
 | .met b a ns=>∃C',e=some (.met b a ns,G',C')
 | .round rs=>∃N3 m,e=some (.raised,N3,lim+1)/\G'++rs<+:N3/\N3<+:G'++(List.replicate m rs).flatten/\m<=lim
nonrec theorem IG{s:Str}{fp bp:List dZ}{lim:Nat}(n:Nat):∀{j:Nat} {lg:List LE} {st:Nat},j+n<=s.length+1->st+n*((dc fp).length+(dc bp).length+2)<=lim->
  nF lim (mc s fp bp n j lg).1 (mc s fp bp n j lg).2 (BH s (eA (fu fp bp)) lim n j lg st):=by
 induction n with
 |zero=>intro j lg st _ _;exact⟨0,st,rfl⟩
 |succ n ih=>
  intro j lg st hj hb;have hos:=oJ fp bp;generalize eA (fu fp bp)=os at hos;have hja:j<=s.length:=by omega
  have h5:=o47 hb;have h4:=cJ (bv h5);have h3:=bv h4;have h2:=cJ h3;have h1:=bv h2;rw[wh,kU];have hseg0:∀i,nth os (0+i)=nth (dc fp++ .succeed::(dc bp++[fz.done])) i:=λi=>by rw[hos,bS]
  have q:=vM s os lim .emp [] (dc fp) (.succeed::(dc bp++[fz.done])) (n:=lim+2) (p:=none) (pc:=0) (a:=j) (f:=false) (ns:=[]) (ms:=[]) (lg:=lg) (st:=st) hseg0 (yI s fp hja false [] [] lg) (by omega) (by omega);cases c1:d3 s fp j false [] lg with
  |mk y1 L'=>
   rw[c1] at q;rcases q with⟨q1,_⟩ | q
   .omega
   cases y1 with
   |over=>
    obtain⟨w,C',_,q2⟩:=q rfl;have q2:fR s os lim (lim+2) none ⟨0,j,[],[]⟩ .emp lg st=some (.over w,L',C'):=q2;rw[q2];exact⟨1,C',rfl⟩
   |no=>
    obtain⟨k,n',w',_,k1,k2,k3,q2⟩:=q;have q2:fR s os lim (lim+2) none ⟨0,j,[],[]⟩ .emp lg st=some (.failed w',L',st+k):=q2;rw[q2];have ih:=ih (j:=j+1) (lg:=L') (st:=st+k) (by omega) (by omega);have hc:eA (fu fp bp)=os:=by rw[oJ,hos]
    rw[hc] at ih;exact ih
   |ok a ns f=>
    obtain⟨n',ms',k1,k2,q2⟩:=q;have ha:a<=s.length:=(lB s fp j false [] lg c1 hja).1;have q2:fR s os lim (lim+2) none ⟨0,j,[],[]⟩ .emp lg st=fR s os lim n' none ⟨0+(dc fp).length,a,ns.reverse++[],ms'⟩ (AD .emp f) L' (st+(dc fp).length):=q2;rw[bS,aQ] at q2;rw[q2];have ho:nth os (dc fp).length=some .succeed:=by
     have:=jW (dc fp) (.succeed::(dc bp++[fz.done])) 0;rw[hos];exact this
    cases n' with
    |zero=>omega
    |succ n'=>
     have hst1:¬lim<st+(dc fp).length+1:=by omega
     have e:fR s os lim (n'+1) none ⟨(dc fp).length,a,ns.reverse,ms'⟩ (AD .emp f) L' (st+(dc fp).length)=fR s os lim n' none ⟨(dc fp).length+1,a,ns.reverse,ms'⟩ (.top (.suc ⟨(dc fp).length,a,ns.reverse,ms'⟩)) L' (st+(dc fp).length+1):=by
      rw[jP (w:=⟨(dc fp).length,a,ns.reverse,ms'⟩) ho () () hst1];rfl
     rw[e];have hseg:∀i,nth os ((dc fp).length+1+i)=nth (dc bp++[fz.done]) i:=λi=>by
      have:=jW (dc fp) (.succeed::(dc bp++[fz.done])) (i+1);rw[hos,show(dc fp).length+1+i=(dc fp).length+(i+1) from by omega,this];rfl
     have hlog:∀l:List LE,i6 s (dc bp) a false [] ms' l=some ((d3 s bp a false [] []).1,l++(d3 s bp a false [] []).2):=λl=>by
      rw[yI s bp ha];have:=wI s l bp a false [] [];rw[aQ] at this;rw[this]
     have q:=vM s os lim (.top (.suc ⟨(dc fp).length,a,ns.reverse,ms'⟩)) ns.reverse (dc bp) [.done] (n:=n') (p:=none) (f:=false) (ns:=[]) (ms:=ms') (lg:=L') (st:=st+(dc fp).length+1) hseg (hlog L') (by omega) (by omega);show nF lim (match d3 s bp a false [] [] with
      |(.no,rs)=>(ii.round rs,L')
      |(.over,rs)=>(.none 2,L'++rs)
      |(.ok e ms _,rs)=>(.met j e (ns++ms),L'++rs)).1 (match d3 s bp a false [] [] with
      |(.no,rs)=>(ii.round rs,L')
      |(.over,rs)=>(.none 2,L'++rs)
      |(.ok e ms _,rs)=>(.met j e (ns++ms),L'++rs)).2 _
     cases c2:d3 s bp a false [] [] with
     |mk y2 rs=>
      rw[c2] at q hlog;rcases q with⟨q1,_⟩ | q
      .have q1:lim<st+(dc fp).length+1+(dc bp).length:=q1
       omega
      cases y2 with
      |over=>
       obtain⟨w,C',_,q3⟩:=q rfl;have q3:fR s os lim n' none ⟨(dc fp).length+1,a,ns.reverse,ms'⟩ (.top (.suc ⟨(dc fp).length,a,ns.reverse,ms'⟩)) L' (st+(dc fp).length+1)=some (.over w,L'++rs,C'):=q3;rw[q3];exact⟨1,C',rfl⟩
      |ok e ms g=>
       obtain⟨n2,ms2,k3,k4,q3⟩:=q;have q3:fR s os lim n' none ⟨(dc fp).length+1,a,ns.reverse,ms'⟩ (.top (.suc ⟨(dc fp).length,a,ns.reverse,ms'⟩)) L' (st+(dc fp).length+1)=fR s os lim n2 none ⟨(dc fp).length+1+(dc bp).length,e,ms.reverse++ns.reverse,ms2⟩ (AD (.top (.suc ⟨(dc fp).length,a,ns.reverse,ms'⟩)) g) (L'++rs) (st+(dc fp).length+1+(dc bp).length):=q3;rw[q3];have hd:nth os ((dc fp).length+1+(dc bp).length)=some .done:=by
        rw[hseg];have:=jW (dc bp) [fz.done] 0;exact this
       cases n2 with
       |zero=>omega
       |succ n2=>
        have hst2:¬lim<st+(dc fp).length+1+(dc bp).length+1:=cF.mpr (bv h5);rw[qn (w:=⟨(dc fp).length+1+(dc bp).length,e,ms.reverse++ns.reverse,ms2⟩) hd hst2];refine⟨st+(dc fp).length+1+(dc bp).length+1,?_⟩;show some (l7.met j e (ms.reverse++ns.reverse).reverse,_,_)=_;rw[List.reverse_append,List.reverse_reverse,List.reverse_reverse]
      |no=>
       obtain⟨k,n2,w',k0,k3,k4,k5,q3⟩:=q;have q3:fR s os lim n' none ⟨(dc fp).length+1,a,ns.reverse,ms'⟩ (.top (.suc ⟨(dc fp).length,a,ns.reverse,ms'⟩)) L' (st+(dc fp).length+1)=fR s os lim n2 (some (first none w')) ⟨(dc fp).length,a,ns.reverse,ms'⟩ .opq (L'++rs) (st+(dc fp).length+1+k):=q3;rw[q3];obtain⟨w,N3,m,z1,z2,z3,z4⟩:=rounds hos (nm:=ns.reverse) (ms:=ms') (a:=a) hlog lim (n:=n2) (st:=st+(dc fp).length+1+k) (p:=some (first none w')) (h:=.opq) (lg:=L'++rs) (by omega) k4 k5;rw[z1];refine⟨N3,m+1,rfl,z2,?_,by omega⟩;rw[bz,bP,<-aw];exact z3
/-! the plain trial along a row -/
def wm:dZ->Nat
 | .mk .now _=>3
 | .mk .later _=>3
 |_=>1
def Cy:List dZ->Nat
 |[]=>0
 |p::ps=>wm p+Cy ps
def lV(p:dZ):jO:=.nd (.lf (.part p))
theorem kI(s:Str)(ps:List dZ){a:Nat}(ha:a<=s.length)(f:Bool)(ns:List Str)(lg:List LE):lg<+:(d3 s ps a f ns lg).2:=jt s _ (yI s ps ha f ns [] lg)
def rO(s:Str)(lim:Nat)(u':List jO)(p0:eK)(ln st:Nat)(lg:List LE)(x:fP×List LE)(e:Option (zW×eK×List LE×Nat)):Prop:=
 (lim<st+ln/\∃i r p' N3,e=some (.raised i r,p',N3,lim+1)/\lg<+:N3/\N3<+:x.2)\/
 (match x.1 with
  | .ok a' N0 f'=>∃n' k,(f'=true↔0<k)/\st+ln<=lim/\lim<n'+(st+ln)/\e=ko s lim n' u' a' N0 (List.replicate k none++p0) x.2 (st+ln)
  | .over=>∃C',C'<=st+ln/\((∃p',e=some (.lost,p',x.2,C'))\/∃i r p',e=some (.brk i r,none::p',x.2,C'))
  | .no=>∃k i r,1<=k/\k<=ln/\st+k<=lim/\e=some (.brk i r,p0,x.2,st+k))
section
variable{s:Str} {lim ln st:Nat} {u':List jO} {p0:eK} {lg:List LE} {x:fP×List LE}
theorem rO.shift{d:Nat}{L':List LE}{e:Option (zW×eK×List LE×Nat)}(h:rO s lim u' p0 ln (st+d) L' x e)(hp:lg<+:L'):rO s lim u' p0 (d+ln) st lg x e:=by
 rcases h with⟨q1,i,r,p',N3,q2,q3,q4⟩ | q
 .exact .inl ⟨by omega,i,r,p',N3,q2,hp.trans q3,q4⟩
 .refine .inr ?_
  obtain⟨y,G'⟩:=x;cases y with
  |ok a' N0 f'=>
   obtain⟨n',k,q0,q1,q2,q3⟩:=q;refine⟨n',k,q0,by omega,by omega,?_⟩;rw[q3,bQ]
  |over=>
   obtain⟨C',q1,q2⟩:=q;exact⟨C',by omega,q2⟩
  |no=>
   obtain⟨k,i,r,q0,q1,q2,q3⟩:=q;refine⟨d+k,i,r,by omega,by omega,by omega,?_⟩;rw[q3,bQ]
theorem rO.step{n a:Nat}{i:jO}{r:List jO}{ns:List Str}{p:eK}(hs:st<=lim)(hn:lim<n+st)(hx:lg<+:x.2)
  (go:∀m,lim<m+(st+1)->st+1<=lim->rO s lim u' p0 (1+ln) st lg x (match adv s i r a ns p lg with
   |(.no,p,lg)=>some (.brk i r,p,lg,st+1)
   |(.lost,p,lg)=>some (.lost,p,lg,st+1)
   |(.way t,p,lg)=>ko s lim m t.ch t.at_ t.ns p lg (st+1))):rO s lim u' p0 (1+ln) st lg x (ko s lim n (i::r) a ns p lg st):=by
 cases n with
 |zero=>omega
 |succ n=>
  rw[jr]
  by_cases A':lim<st+1
  .rw[if_pos A']
   exact .inl ⟨by omega,i,r,p,lg,by rw[show st=lim from by omega],aO _,hx⟩
  .rw[if_neg A']
   exact go n (by omega) (by omega)
theorem rO.bind{rest1:List jO}{l1 l2:Nat}{g:Nat->List Str->Bool->List LE->fP×List LE}{e:Option (zW×eK×List LE×Nat)}(h:rO s lim rest1 p0 l1 st lg x e)(hx:lg<+:x.2)(hg:∀a ns f l,x=(.ok a ns f,l)->l<+:(g a ns f l).2)
  (k:∀a ns f l,x=(.ok a ns f,l)->∀n' j,(f=true↔0<j)->st+l1<=lim->lim<n'+(st+l1)->rO s lim u' p0 l2 (st+l1) l (g a ns f l) (ko s lim n' rest1 a ns (List.replicate j none++p0) l (st+l1))):
  rO s lim u' p0 (l1+l2) st lg (jV x g) e:=by
 obtain⟨y,G'⟩:=x;rcases h with⟨q1,i,r,p',N3,q2,q3,q4⟩ | q
 .refine .inl ⟨by omega,i,r,p',N3,q2,q3,?_⟩
  cases y with
  |ok a ns f=>exact q4.trans (hg a ns f G' rfl)
  |over=>exact q4
  |no=>exact q4
 .cases y with
  |ok a' N0 f'=>
   obtain⟨n',j,q0,q1,q2,q3⟩:=q;rw[q3];exact(k a' N0 f' G' rfl n' j q0 q1 q2).shift hx
  |over=>
   obtain⟨C',q1,q2⟩:=q;exact .inr ⟨C',by omega,q2⟩
  |no=>
   obtain⟨k,i,r,q0,q1,q2,q3⟩:=q;exact .inr ⟨k,i,r,q0,by omega,q2,q3⟩
theorem rO.bare{R:List jO}{n a j:Nat}{b:gw}{f:Bool}{ns:List Str}(hj:f=true↔0<j)(ha:a<=s.length)(hs:st<=lim)(hn:lim<n+st)(hx:lg<+:x.2)
  (h1:eh b->x=(.over,lg)) (h2:eh b=false->eX s a b=none->x=(iX f,lg))
  (h3:eh b=false->∀e,eX s a b=some e->∀m k,((fI b||f)=true↔0<k)->st+1<=lim->lim<m+(st+1)->rO s lim u' p0 ln (st+1) lg x (ko s lim m R e ns (List.replicate k none++p0) lg (st+1))):
  rO s lim u' p0 (1+ln) st lg x (ko s lim n (lV (.mk .bare b)::R) a ns (List.replicate j none++p0) lg st):=by
 refine .step hs hn hx λm hm A'=>?_;show rO s lim u' p0 (1+ln) st lg x (match oN s b (lV (.mk .bare b)) R a ns (List.replicate j none++p0) lg with
   |(.no,p,lg)=>some (.brk (lV (.mk .bare b)) R,p,lg,st+1)
   |(.lost,p,lg)=>some (.lost,p,lg,st+1)
   |(.way t,p,lg)=>ko s lim m t.ch t.at_ t.ns p lg (st+1))
 have fails:x=(iX f,lg)->rO s lim u' p0 (1+ln) st lg x (some (.brk (lV (.mk .bare b)) R,List.replicate j none++p0,lg,st+1)):=λe=>by
  rw[e];cases f with
  |true=>
   have:0<j:=hj.mp rfl;cases j with
   |zero=>omega
   |succ j=>exact .inr ⟨st+1,by omega,.inr ⟨_,_,List.replicate j none++p0,rfl⟩⟩
  |false=>
   have:j=0:=by
    cases j with
    |zero=>rfl
    |succ j=>exact absurd (hj.mpr (Nat.succ_pos j)) ()
   subst this;exact .inr ⟨1,_,_,ao _,by omega,A',rfl⟩
 have one:AA b->fI b=false->eh b=false->oN s b (lV (.mk .bare b)) R a ns (List.replicate j none++p0) lg=(match eB s a (wb b) with
   |some e=>(.way ⟨R,e,ns⟩,List.replicate j none++p0,lg)
   |none=>(.no,List.replicate j none++p0,lg))->rO s lim u' p0 (1+ln) st lg x (match oN s b (lV (.mk .bare b)) R a ns (List.replicate j none++p0) lg with
   |(.no,p,lg)=>some (.brk (lV (.mk .bare b)) R,p,lg,st+1)
   |(.lost,p,lg)=>some (.lost,p,lg,st+1)
   |(.way t,p,lg)=>ko s lim m t.ch t.at_ t.ns p lg (st+1)):=λk1 k2 k3 e=>by
  rw[e];have be:=mB ha k1;cases c:eB s a (wb b) with
  |none=>exact fails (h2 k3 (by rw[be,c]))
  |some e'=>exact(h3 k3 e' (by rw[be,c]) m j (by rw[k2,Bool.false_or];exact hj) A' hm).shift (aO _)
 cases b with
 |fail=>exact fails (h2 rfl rfl)
 |abort=>rw[h1 rfl];exact .inr ⟨st+1,by omega,.inl ⟨_,rfl⟩⟩
 |fence=>exact(h3 rfl a rfl m (j+1) ⟨λI=>Nat.succ_pos _,λI=>rfl⟩ A' hm).shift (aO _)
 |ca=>exact one rfl rfl rfl rfl
 |cb=>exact one rfl rfl rfl rfl
 |any=>exact one rfl rfl rfl rfl
 |len1=>exact one rfl rfl rfl rfl
 |len0=>exact one rfl rfl rfl rfl
end
nonrec theorem wX{n st a j:Nat}{f:Bool}{ns:List Str}{lg:List LE}(s:Str)(lim:Nat)(u':List jO)(p0:eK)(q:dZ)(hj:f=true↔0<j)(ha:a<=s.length)(hs:st<=lim)(hn:lim<n+st):rO s lim u' p0 (wm q) st lg (d3 s [q] a f ns lg) (ko s lim n (lV q::u') a ns (List.replicate j none++p0) lg st):=by
 have hx:=kI s [q] ha f ns lg;cases q with
 |cur=>exact .step (ln:=0) hs hn hx λm hm A'=>.inr ⟨m,j,hj,A',hm,rfl⟩
 |mk mo b=>
  have e0:=jg s mo b [] a f ns lg;have k1:eh b->d3 s [.mk mo b] a f ns lg=(.over,lg):=λz=>by rw[e0,z]
  have k2:eh b=false->eX s a b=none->d3 s [.mk mo b] a f ns lg=(iX f,lg):=λz c=>by rw[e0,z,c];rfl
  cases mo with
  |bare=>
   refine .bare (ln:=0) hj ha hs hn hx k1 k2 λz e c m k hk A' hm=>?_;rw[e0,z,c];exact .inr ⟨m,k,hk,A',hm,rfl⟩
  |now=>
   refine .step (ln:=2) hs hn hx λm hm A'=>?_;refine rO.shift (d:=1) (ln:=2) (L':=lg) ?_ (aO _);refine .bare (R:=.endN a::u') (ln:=1) hj ha A' hm hx k1 k2 λz e c m k hk A' hm=>?_;refine .step (ln:=0) A' hm hx λm hm A'=>?_;rw[e0,z,c];exact .inr ⟨m,k,hk,A',hm,rfl⟩
  |later=>
   refine .step (ln:=2) hs hn hx λm hm A'=>?_;refine rO.shift (d:=1) (ln:=2) (L':=lg) ?_ (aO _);refine .bare (R:=.endL a::u') (ln:=1) hj ha A' hm hx k1 k2 λz e c m k hk A' hm=>?_;refine .step (ln:=0) A' hm hx λm hm A'=>?_;rw[e0,z,c];exact .inr ⟨m,k,hk,A',hm,rfl⟩
theorem mi{s:Str}{ps:List dZ}{a:Nat}{f:Bool}{ns:List Str}{lg:List LE}{e:Nat}{ms:List Str}{g:Bool}{G':List LE}(h:d3 s ps a f ns lg=(.ok e ms g,G'))(ha:a<=s.length):e<=s.length:=(lB s ps a f ns lg h ha).1
theorem vi(s:Str)(lim:Nat)(u':List jO)(p0:eK):∀(ps:List dZ) {n st a j:Nat} {f:Bool} {ns:List Str} {lg:List LE},(f=true↔0<j)->a<=s.length->st<=lim->lim<n+st->
  rO s lim u' p0 (Cy ps) st lg (d3 s ps a f ns lg) (ko s lim n (ps.map lV++u') a ns (List.replicate j none++p0) lg st)
 |[],n,st,a,j,f,ns,lg,hj,ha,hs,hn=>.inr ⟨n,j,hj,hs,hn,rfl⟩
 |q::ps,n,st,a,j,f,ns,lg,hj,ha,hs,hn=>by
  rw[pQ];exact rO.bind (rest1:=ps.map lV++u') (wX s lim (ps.map lV++u') p0 q hj ha hs hn) (kI s [q] ha f ns lg) (λa1 n1 f1 l e=>kI s ps (mi e ha) f1 n1 l)
   (λa1 n1 f1 l e n' j' hj' h1 h2=>vi s lim u' p0 ps hj' (mi e ha) h1 h2)
def oZ:List dZ->Nat
 |[]=>0
 |p::ps=>(1+wm p)+oZ ps
theorem ur(s:Str)(lim:Nat)(R:List jO)(p0:eK):∀(fp:List dZ) {n st a j:Nat} {f:Bool} {ns:List Str} {lg:List LE},(f=true↔0<j)->a<=s.length->st<=lim->lim<n+st->
  rO s lim (.nd (.lf .suc)::R) p0 (oZ fp) st lg (d3 s fp a f ns lg) (ko s lim n (.nd (fh fp)::R) a ns (List.replicate j none++p0) lg st)
 |[],n,st,a,j,f,ns,lg,hj,ha,hs,hn=>.inr ⟨n,j,hj,hs,hn,rfl⟩
 |q::fp,n,st,a,j,f,ns,lg,hj,ha,hs,hn=>by
  rw[pQ];refine rO.bind (l1:=1+wm q) (rest1:=.nd (fh fp)::R) (x:=d3 s [q] a f ns lg) (.step (ln:=wm q) hs hn (kI s [q] ha f ns lg) λm hm A'=>?_) (kI s [q] ha f ns lg) (λa1 n1 f1 l e=>kI s fp (mi e ha) f1 n1 l)
   (λa1 n1 f1 l e n' j' hj' h1 h2=>ur s lim R p0 fp hj' (mi e ha) h1 h2)
  exact(wX s lim (.nd (fh fp)::R) p0 q hj ha A' hm).shift (aO _)
theorem wS(s:Str)(lim:Nat):∀(bp:List dZ) (nd:Nd) (r:List jO) {n st a:Nat} {ns:List Str} {p:eK} {lg:List LE},st+bp.length<=lim->lim<n+st->
  ∃n',lim<n'+(st+bp.length)/\ko s lim n (.nd (bp.foldl (λn p=>.cat n (.lf (.part p))) nd)::r) a ns p lg st=ko s lim n' (.nd nd::(bp.map lV++r)) a ns p lg (st+bp.length)
 |[],nd,r,n,st,a,ns,p,lg,hs,hn=>⟨n,hn,rfl⟩
 |q::bp,nd,r,n,st,a,ns,p,lg,hs,hn=>by
  have hlen:(q::bp).length=bp.length+1:=rfl;rw[hlen] at hs;obtain⟨n',h1,h2⟩:=wS s lim bp (.cat nd (.lf (.part q))) r (n:=n) (st:=st) (a:=a) (ns:=ns) (p:=p) (lg:=lg) (by omega) hn;cases n' with
  |zero=>omega
  |succ n'=>
   refine⟨n',by rw[hlen];omega,?_⟩;show ko s lim n (.nd (bp.foldl (λn p=>.cat n (.lf (.part p))) (.cat nd (.lf (.part q))))::r) a ns p lg st=_;rw[h2,jr,if_neg (by omega),hlen,<-bQ];rfl
nonrec theorem Hj{s:Str}{lim:Nat}{bp:List dZ}{a:Nat}{ns:List Str}{p1:eK}{rs:List LE}(ha:a<=s.length)(hb:∀lg,d3 s bp a false ns lg=(.no,lg++rs))(k:Nat):
  ∀{n st:Nat} {lg:List LE},lim - st<=k->st<=lim->lim<n+st->
   ∃p' N3 m,ub s lim n (some ⟨.nd (.lf .suc)::bp.map lV,a,ns⟩::p1) lg st=some (.raised,p',N3,lim+1)/\lg<+:N3/\N3<+:lg++(List.replicate m rs).flatten/\m<=lim - st:=by
 induction k with
 |zero=>
  intro n st lg hk hs hn;cases n with
  |zero=>omega
  |succ n=>
   rw[jl];have e:ko s lim (lim+2) (.nd (.lf .suc)::bp.map lV) a ns p1 lg st=some (.raised (.nd (.lf .suc)) (bp.map lV),p1,lg,st+1):=by rw[jr,if_pos (by omega)]
   have A':lim<st+1:=by omega
   rw[e];exact⟨p1,lg,0,by rw[show st=lim from by omega],aO _,by simp,aJ _⟩
 |succ k ih=>
  intro n st lg hk hs hn;cases n with
  |zero=>omega
  |succ n=>
   rw[jl]
   by_cases A':lim<st+1
   .have e:ko s lim (lim+2) (.nd (.lf .suc)::bp.map lV) a ns p1 lg st=some (.raised (.nd (.lf .suc)) (bp.map lV),p1,lg,st+1):=by rw[jr,if_pos A']
    rw[e];exact⟨p1,lg,0,by rw[show st=lim from by omega],aO _,by simp,aJ _⟩
   .have e:ko s lim (lim+2) (.nd (.lf .suc)::bp.map lV) a ns p1 lg st=ko s lim (lim+1) (bp.map lV) a ns (some ⟨.nd (.lf .suc)::bp.map lV,a,ns⟩::p1) lg (st+1):=by rw[jr,if_neg A'];rfl
    have e:ko s lim (lim+2) (Tw.ch ⟨.nd (.lf .suc)::bp.map lV,a,ns⟩) (Tw.at_ ⟨.nd (.lf .suc)::bp.map lV,a,ns⟩) (Tw.ns ⟨.nd (.lf .suc)::bp.map lV,a,ns⟩) p1 lg st=ko s lim (lim+1) (bp.map lV++[]) a ns (List.replicate 0 none++(some ⟨.nd (.lf .suc)::bp.map lV,a,ns⟩::p1)) lg (st+1):=by rw[aQ];exact e
    rw[e];have q:=vi s lim [] (some ⟨.nd (.lf .suc)::bp.map lV,a,ns⟩::p1) bp (n:=lim+1) (st:=st+1) (a:=a) (j:=0) (f:=false) (ns:=ns) (lg:=lg) ⟨(λz=>by cases z),λz=>absurd z (bD 0)⟩ ha (by omega) (by omega);rw[hb lg] at q;rcases q with⟨q1,i,r,p',N3,q2,q3,q4⟩ | ⟨j,i,r,q0,q1,q2,q3⟩
    .rw[q2]
     exact⟨p',N3,1,rfl,q3,by simpa using q4,by omega⟩
    .rw[q3]
     obtain⟨p',N3,m,z1,z2,z3,z4⟩:=ih (n:=n) (st:=st+1+j) (lg:=lg++rs) (by omega) (by omega) (by omega);refine⟨p',N3,m+1,z1,(b9 _ _).trans z2,?_,by omega⟩;rw[bz,bP,<-aw];exact z3
def I0(n0:List Str):fP->fP
 | .ok a ns f=>.ok a (n0++ns) f
 |r=>r
theorem Hk(s:Str)(n0:List Str):∀(ps:List dZ) (a:Nat) (f:Bool) (ns:List Str) (lg:List LE),d3 s ps a f (n0++ns) lg=(I0 n0 (d3 s ps a f ns lg).1,(d3 s ps a f ns lg).2):=by
 refine oX (P:=λps a f ns lg x=>d3 s ps a f (n0++ns) lg=(I0 n0 x.1,x.2)) (λI I I I=>rfl) (λps a f ns lg x h=>h) (λm b ps a f ns lg e=>uU s m b ps a f _ lg e) (λm b ps a f ns lg e k=>(u3 s m b ps a f _ lg e k).trans (by cases f<;>rfl)) (λm b ps a f ns lg e x h k z=>(l9 s m b ps a f _ lg h k).trans ?_);rw[<-z];cases m with
 |later=>exact az (d3 s ps e _ · lg) (aw ..)
 |_=>rfl
theorem t7(s:Str)(bp:List dZ)(a:Nat)(ns:List Str)(l:List LE){y:fP}{rs:List LE}(h:d3 s bp a false [] []=(y,rs)):d3 s bp a false ns l=(I0 ns y,l++rs):=by
 have k1:=Hk s ns bp a false [] l;rw[aQ] at k1;have k2:=wI s l bp a false [] [];rw[aQ] at k2;rw[k1,k2,h]
theorem xP{s:Str}{lim n:Nat}{t:Tw}{p:eK}{lg G':List LE}{st C':Nat}(h:(∃p',ko s lim (lim+2) t.ch t.at_ t.ns p lg st=some (.lost,p',G',C'))\/∃i r p',ko s lim (lim+2) t.ch t.at_ t.ns p lg st=some (.brk i r,none::p',G',C'))(hn:2<=n):
  ∃k p' st'',ub s lim n (some t::p) lg st=some (.lost k,p',G',st''):=by
 obtain⟨n,rfl⟩:∃m,n=m+2:=⟨n - 2,(Nat.sub_add_cancel hn).symm⟩
 rw[jl];rcases h with⟨p',e⟩ | ⟨i,r,p',e⟩
 .rw[e];exact⟨1,p',C',rfl⟩
 .rw[e];exact⟨0,p',C',rfl⟩
nonrec theorem Ip{s:Str}{fp bp:List dZ}{lim:Nat}(hlim:2<=lim)(n:Nat):∀{j:Nat} {lg:List LE} {st:Nat},j+n<=s.length+1->st+n*(bp.length+oZ fp+Cy bp+2)<=lim->
  nF lim (mc s fp bp n j lg).1 (mc s fp bp n j lg).2 (CD s (fu fp bp) lim n j lg st):=by
 induction n with
 |zero=>intro j lg st _ _;exact⟨0,st,rfl⟩
 |succ n ih=>
  intro j lg st hj hb;have hja:j<=s.length:=by omega
  have h5:=o50 hb;have h4:=cJ (bv h5);have h3:=bv h4;have h2:=cJ h3;have h1:=bv h2;have h0:=bv h1;have z0:(false=true↔0<0):=⟨(λz=>by cases z),λz=>absurd z (bD 0)⟩
  rw[wk,kU];obtain⟨n1,g1,e1⟩:=wS s lim bp (fh fp) [] (n:=lim+2) (st:=st) (a:=j) (ns:=[]) (p:=[]) (lg:=lg) (by omega) (by omega);rw[aQ] at e1;have q:=ur s lim (bp.map lV) [] fp (n:=n1) (st:=st+bp.length) (a:=j) (j:=0) (f:=false) (ns:=[]) (lg:=lg) z0 hja (by omega) g1;have e1:ko s lim (lim+2) [.nd (fu fp bp)] j [] [] lg st=ko s lim n1 (.nd (fh fp)::bp.map lV) j [] (List.replicate 0 none++[]) lg (st+bp.length):=e1;rw[<-e1] at q;have et:ub s lim (lim+2) (CF (fu fp bp) j) lg st=ub s lim (lim+1+1) (some ⟨[.nd (fu fp bp)],j,[]⟩::[]) lg st:=rfl;cases c1:d3 s fp j false [] lg with
  |mk y1 L'=>
   rw[c1] at q;rcases q with⟨q1,_⟩ | q
   .omega
   cases y1 with
   |over=>
    obtain⟨C',_,q2⟩:=q;obtain⟨k,p',st'',e⟩:=xP (n:=lim+1+1) (t:=⟨[.nd (fu fp bp)],j,[]⟩) (p:=[]) q2 (by omega);rw[et,e];exact⟨1,st'',rfl⟩
   |no=>
    obtain⟨k,i,r,_,k1,k2,q2⟩:=q;rw[et,jl,q2];have ih:=ih (j:=j+1) (lg:=L') (st:=st+bp.length+k) (by omega) (by omega);exact ih
   |ok a ns f=>
    obtain⟨n2,k,kf,k1,k2,q2⟩:=q;have ha:a<=s.length:=mi c1 hja;cases n2 with
    |zero=>omega
    |succ n2=>
     have q2:ko s lim (lim+2) [.nd (fu fp bp)] j [] [] lg st=ko s lim (n2+1) (.nd (.lf .suc)::bp.map lV) a ns (List.replicate k none++[]) L' (st+bp.length+oZ fp):=q2;generalize List.replicate k (none:Option Tw)++[]=p1 at q2;have e2:ko s lim (n2+1) (.nd (.lf .suc)::bp.map lV) a ns p1 L' (st+bp.length+oZ fp)=ko s lim n2 (bp.map lV) a ns (some ⟨.nd (.lf .suc)::bp.map lV,a,ns⟩::p1) L' (st+bp.length+oZ fp+1):=by
      rw[jr,if_neg (by omega)];rfl
     have q2:=q2.trans e2;have q:=vi s lim [] (some ⟨.nd (.lf .suc)::bp.map lV,a,ns⟩::p1) bp (n:=n2) (st:=st+bp.length+oZ fp+1) (a:=a) (j:=0) (f:=false) (ns:=ns) (lg:=L') z0 ha (by omega) (by omega);rw[aQ] at q;have q2:ko s lim (lim+2) [.nd (fu fp bp)] j [] [] lg st=ko s lim n2 (bp.map lV) a ns (List.replicate 0 none++(some ⟨.nd (.lf .suc)::bp.map lV,a,ns⟩::p1)) L' (st+bp.length+oZ fp+1):=q2;rw[<-q2] at q;show nF lim (match d3 s bp a false [] [] with
      |(.no,rs)=>(ii.round rs,L')
      |(.over,rs)=>(.none 2,L'++rs)
      |(.ok e ms _,rs)=>(.met j e (ns++ms),L'++rs)).1 (match d3 s bp a false [] [] with
      |(.no,rs)=>(ii.round rs,L')
      |(.over,rs)=>(.none 2,L'++rs)
      |(.ok e ms _,rs)=>(.met j e (ns++ms),L'++rs)).2 _
     cases c2:d3 s bp a false [] [] with
     |mk y2 rs=>
      rw[t7 s bp a ns L' c2] at q;rcases q with⟨q1,_⟩ | q
      .omega
      cases y2 with
      |over=>
       obtain⟨C',_,q3⟩:=q;obtain⟨k,p',st'',e⟩:=xP (n:=lim+1+1) (t:=⟨[.nd (fu fp bp)],j,[]⟩) (p:=[]) q3 (by omega);rw[et,e];exact⟨1,st'',rfl⟩
      |ok e ms g=>
       obtain⟨n3,k3,_,k4,k5,q3⟩:=q;cases n3 with
       |zero=>omega
       |succ n3=>
        rw[et,jl,q3];exact⟨_,rfl⟩
      |no=>
       obtain⟨k3,i,r,k4,k5,k6,q3⟩:=q;obtain⟨p',N3,m,z1,z2,z3,z4⟩:=Hj ha (p1:=p1) (λl=>t7 s bp a ns l c2) lim (n:=lim+1) (st:=st+bp.length+oZ fp+1+k3) (lg:=L'++rs) (by omega) k6 (by omega);have q3:ko s lim (lim+2) [.nd (fu fp bp)] j [] [] lg st=some (.brk i r,some ⟨.nd (.lf .suc)::bp.map lV,a,ns⟩::p1,L'++rs,st+bp.length+oZ fp+1+k3):=q3;rw[et,jl,q3];show nF lim _ _ (match ub s lim (lim+1) (some ⟨.nd (.lf .suc)::bp.map lV,a,ns⟩::p1) (L'++rs) (st+bp.length+oZ fp+1+k3) with
        |none=>none
        |some (.none,_,lg,st)=>CD s (fu fp bp) lim n (j+1) lg st
        |some (.lost _,_,lg,st)=>some (.nope 1,lg,st)
        |some (.fin a ns,_,lg,st)=>some (.met j a ns,lg,st)
        |some (.raised,_,lg,st)=>some (.raised,lg,st))
       rw[z1];refine⟨N3,m+1,rfl,z2,?_,by omega⟩;rw[bz,bP,<-aw];exact z3
set_option genSizeOf false in
set_option genInjectivity false in
structure yY where
 nm:Str
 q:Str
 bs:List Value
 sn:List Str
 sub:List Value
 ab:Bool
 col:Option Bool
 dd:Option Addr
 k0:Option Value
 k1:Option Value
 k2:Option Value
 k3:Option Value
 k5:Option Value
abbrev yY.o(x:yY)(C N:Addr)(bm:List Value)(h:Bool)(newId:String):Obj:=excClassObj x.nm x.q C N x.bs bm h x.sn x.sub x.ab x.col x.dd x.k0 x.k1 x.k2 x.k3 x.k5 newId
theorem qS:Slot "wrapper_descriptor" "__get__" "wrapper_descriptor.__get__":=.of (owner:="wrapper_descriptor") (n:="__get__") (by rw[typeLookup_type,builtinLookup_eq_fast];kernel_rfl) (by decide+kernel) (by decide+kernel) (by decide+kernel)
 (by first | exact .inl (by decide+kernel) | exact .inr (by decide+kernel)) (by rw[isSubtype_type];kernel_rfl)
theorem vY:entryFor table "wrapper_descriptor.__get__"=some Builtin.«wrapper_descriptor.__get__»:=entryFor_of_tree (by kernel_rfl)
theorem w8(a b c:Value):argsOk "wrapper_descriptor.__get__" ⟨[a,b,c],[]⟩:=by unfold argsOk;kernel_rfl
theorem JP{prog:Program}{w:World}{A:Around}{E:Value->Shared->Prop}{h:Heap}{g:Array GenState}{d:Drawn}{t:Nat}{os:OsState}{xc:yY}{C N:Addr}{bm:List Value}{hdct:Bool}{newId:String}{e:Addr}{oe:Obj}{Q:Fin->Shared->Prop}(hC:h.get? C=some (xc.o C N bm hdct newId))(he:h.get? e=some oe)(hcls:oe.cls= .ref C)(hb:bm.contains (.type "Exception")=true)
  (hq:Q (.done (.ret (.ref h.objs.size))) ⟨h.push {cls:=.type "method-wrapper",data:=.fields #[.builtin "Exception.__init__",.ref e]},g,d,t,os⟩):
  wpAny (model prog w) A (Builtin.«wrapper_descriptor.__get__» ⟨[.builtin "Exception.__init__",.ref e,.ref C],[]⟩) Q E ⟨h,g,d,t,os⟩:=by
 have hcB:(Value.ref C::bm).contains (.type "Exception")=true:=by rw[List.contains_cons,hb,Bool.or_true]
 have hs:".".intercalate ("Exception.__init__".cutAt '.').dropLast="Exception":=by decide+kernel
 unfold Builtin.«wrapper_descriptor.__get__»
 repeat (first
  |(with_reducible refine bf he ?_;rw[hcls])
  |with_reducible refine bf hC ?_
  |(with_reducible refine wpAny_isSubtype_exc hC ?_;rw[hcB])
  |(rw[hs])
  |wp_step)
 all_goals exact hq
nonrec theorem xA{prog:Program}{w:World}{A:Around}{E:Value->Shared->Prop}{h:Heap}{g:Array GenState}{d:Drawn}{t:Nat}{os:OsState}{xc:yY}{C N:Addr}{bm:List Value}{hdct:Bool}{newId:String}{so D x:Addr}{ox:Obj}{l₀ l:List Value}{tk:Tok}{Q:Fin->Shared->Prop}(hso:h.get? so=some {cls:=.type "super",dict:=none,data:=.fields #[.ref D,.ref x,.ref C],slots:=#[]})(hno:Looks (model prog w) h (opaqueClassAbove (.ref C)) none)(hM:Looks (model prog w) h (mroOf (.ref C)) l₀)(hl:(l₀.dropWhile (· != .ref D)).drop 1= .type "Exception"::l)(hxC:x≠C)(hC:h.get? C=some (xc.o C N bm hdct newId))(hx:h.get? x=some ox)(hcls:ox.cls= .ref C)(hb:bm.contains (.type "Exception")=true)(hq:Q (.done (.ret (.ref h.objs.size))) ⟨h.push {cls:=.type "method-wrapper",data:=.fields #[.builtin "Exception.__init__",.ref x]},g,d,t,os⟩):
  wpAny (model prog w) A (Builtin.«super.__getattribute__» ⟨[.ref so,.str "__init__" tk],[]⟩) Q E ⟨h,g,d,t,os⟩:=by
 have hlk:=qS.lookup;have hne:(Value.ref x==Value.ref C)=false:=by simp [hxC]
 have hdt:({cls:=.type "super",dict:=none,data:=.fields #[.ref D,.ref x,.ref C],slots:=#[]}:Obj).data= .fields #[.ref D,.ref x,.ref C]:=rfl;have f0:(#[.ref D,.ref x,.ref C]:Array Value)[0]?=some (.ref D):=rfl;have f1:(#[.ref D,.ref x,.ref C]:Array Value)[1]?=some (.ref x):=rfl;have f2:(#[.ref D,.ref x,.ref C]:Array Value)[2]?=some (.ref C):=rfl;have hbt:builtinType "Exception.__init__"=pure (.type "wrapper_descriptor"):=by kernel_rfl
 have hbo:builtinOwn "Exception" "__init__"=some (.builtin "Exception.__init__"):=by kernel_rfl
 have hn:(("__init__":Str)==("__class__":Str))=false:=by decide+kernel
 have hT:(⟨h,g,d,t,os⟩:Shared).TypeIs (.builtin "Exception.__init__") "wrapper_descriptor":=hbt;unfold Builtin.«super.__getattribute__»
 iterate 16 (first
  |(with_reducible refine cD hso hdt f0 ?_) | (with_reducible refine cD hso hdt f1 ?_) | (with_reducible refine cD hso hdt f2 ?_)
  |(with_reducible refine ks_wpAny_notOpaque hno ?_)
  |(simp only[hn,hne,Bool.or_false,Bool.false_eq_true,if_false])
  |wp_step)
 rw[if_neg (by simp)];refine aa (ks_wpAny_notOpaque hno ?_);rw[if_neg (by simp)];refine aa (Looks.at hM ?_);rw[hl,List.forIn_cons];have hco:classOwn (.type "Exception") (Str.ofString "__init__")=pure (some (.builtin "Exception.__init__")):=az pure hbo;rw[hco];refine aa (aa (aa (aE ?_)));dsimp only;refine aa (bV hbt ?_);refine aa (bV hlk ?_);dsimp only;refine aa (aU (wpAny_call_entry qS hT vY ?_ (w8 _ _ _)));refine JP hC hx hcls hb ?_;refine⟨_,rfl,aa (aE (aE (aE (aE hq))))⟩
abbrev Fi:List Value:=[.type "Exception",.type "BaseException",.type "object"]
nonrec theorem EV{prog:Program}{w:World}{A:Around}{E:Value->Shared->Prop}{h:Heap}{g:Array GenState}{d:Drawn}{t:Nat}{os:OsState}{xc:yY}{C N:Addr}{bm:List Value}{hdct:Bool}{newId:String}{e:Addr}{oe:Obj}{x:Value}{Q:Unit->Shared->Prop}(hC:h.get? C=some (xc.o C N bm hdct newId))(he:h.get? e=some oe)(hcls:oe.cls= .ref C)(hq:Q Unit.unit ⟨h,g,d,t,os⟩):wpAny (model prog w) A (checkBoundCall "Exception.__init__" ⟨[.ref e,x],[]⟩) Q E ⟨h,g,d,t,os⟩:=by
 have hshort:=F.excBase_Exception.noStar;unfold checkBoundCall;simp only[F.excBase_Exception.initKind,F.excBase_Exception.initRow];unfold Bind.checkArgs
 repeat (first | (with_reducible refine bf he ?_;rw[hcls]) | with_reducible refine bf hC ?_ | wp_step)
 exact hq
theorem uO{prog:Program}{w:World}{A:Around}{h:Heap}{g:Array GenState}{d:Drawn}{t:Nat}{os:OsState}{xc:yY}{C N:Addr}{bm:List Value}{hdct:Bool}{newId:String}{e b:Addr}{odx:Option Addr}{vs:List Value}{osl:Array (Option Value)}{a0:Addr}{x:Value}{R:Result->Shared->Prop}(hC:h.get? C=some (xc.o C N bm hdct newId))
  (he:h.get? e=some ⟨.ref C,odx,.fields ⟨.ref a0::vs⟩,osl⟩) (hb:h.get? b=some {cls:=.type "method-wrapper",data:=.fields #[.builtin "Exception.__init__",.ref e]})
  (hR:∀h',h'.get? e=some ⟨.ref C,odx,.fields ⟨.ref h.objs.size::vs⟩,osl⟩->(∀c o,c≠e->h.get? c=some o->h'.get? c=some o)->R (.ok (.ret .none)) ⟨h',g,d,t,os⟩):
  codeAny (model prog w) A (.call (.ref b) ⟨[x],[]⟩) R ⟨h,g,d,t,os⟩:=by
 refine codeAny_of_tree ?_;show wpAny _ A.in1 (callAny (.ref b) _) _ _ _;unfold callAny;refine aa (wpAny_load hb ?_);dsimp only;rw[if_pos (by decide+kernel)];refine aa (EV hC he rfl (aE ⟨Code.quiet_builtin _ (by decide+kernel),codeAny_builtin F.excBase_Exception.initEntry ?_⟩));unfold Builtin.«BaseException.__init__»;show wpAny _ _ (do let t <-newTuple [x];Builtin.BaseException.bexcPut (.ref e) 0 t;ret .none) _ _ _;have he':(h.push {cls:=.type "tuple",data:=.seq [x].toArray}).get? e=some ⟨.ref C,odx,.fields ⟨.ref a0::vs⟩,osl⟩:=ae _ he;wp_walk;refine hR _ ?_ (λc o hc e'=>?_)
 .rw[bM _ he' rfl]
  rfl
 .rw[aL _ _ (Ne.symm hc)]
  exact ae _ e'
theorem u0{prog:Program}{w:World}{A:Around}{E:Value->Shared->Prop}{h:Heap}{g:Array GenState}{d:Drawn}{t:Nat}{os:OsState}{xc:yY}{C N:Addr}{bm:List Value}{hdct:Bool}{newId:String}{so D x:Addr}{ox:Obj}{l₀ l:List Value}{pl:Sem Bool}{Q:Value×List Value->Shared->Prop}
  (hso:h.get? so=some {cls:=.type "super",dict:=none,data:=.fields #[.ref D,.ref x,.ref C],slots:=#[]}) (hno:Looks (model prog w) h (opaqueClassAbove (.ref C)) none)
  (hM:Looks (model prog w) h (mroOf (.ref C)) l₀) (hl:(l₀.dropWhile (· != .ref D)).drop 1= .type "Exception"::l) (hxC:x≠C)
  (hC:h.get? C=some (xc.o C N bm hdct newId)) (hx:h.get? x=some ox) (hcls:ox.cls= .ref C) (hb:bm.contains (.type "Exception")=true)
  (hq:Q (.ref h.objs.size,[]) ⟨h.push {cls:=.type "method-wrapper",data:=.fields #[.builtin "Exception.__init__",.ref x]},g,d,t+1,os⟩):
  wpAny (model prog w) A (getMethod (.ref so) "__init__" pl) Q E ⟨h,g,d,t,os⟩:=by
 have T:∀t',(⟨h,g,d,t',os⟩:Shared).TypeIs (.ref so) "super":=λI=>⟨_,hso,rfl⟩
 have lk:=F.ks_slot_super_ga.lookup;unfold getMethod;refine aa (wpAny_specialOf (T _) lk ?_);show wpAny _ _ (if(Manifest.canonical "super.__getattribute__" != "object.__getattribute__")=true then _ else _) _ _ _;rw[if_pos F.ks_canon_super_ga];unfold getAttr getAttrBy;refine aa (aa (wpAny_mkText (aU (aa (wpAny_typeOf (T _) (aa (bV lk ?_)))))));show wpAny _ _ (getAttrByItsOwn (.ref so) (.str "__init__" t) (.type "super") (.builtin "super.__getattribute__") true false) _ _ _;unfold getAttrByItsOwn hookBefore callGetattribute boundAndCalled;refine aa (bV (show(if onTheHeap (.type "super") then typeLookup (.type "super") "__getattr__" else pure none)=pure none from rfl) ?_);refine aa (wpAny_attempt (aU ?_));show wpAny _ _ (bindSpecial (.builtin "super.__getattribute__") (.ref so) >>= _) _ _ _;refine aa (bV (F.ks_slot_super_ga.bind _) ?_);refine aK (Q:=λv s'=>v= .ref h.objs.size/\s'=⟨h.push {cls:=.type "method-wrapper",data:=.fields #[.builtin "Exception.__init__",.ref x]},g,d,t+1,os⟩) (E:=λI I=>False)
  (wpAny_call_entry F.ks_slot_super_ga (T _) F.ks_entry_super_ga (xA hso hno hM hl hxC hC hx hcls hb ⟨_,rfl,rfl,rfl⟩) (F.ks_gaArgs_super _ _)) (λv s' hv=>?_) λI I z=>z.elim
 obtain⟨rfl,rfl⟩:=hv;exact aE (aE hq)
section
set_option tactic.hygienic true
theorem vW{M:Model}{A:Around}{E:Value->Shared->Prop}{env:Env}{s:Shared}{xc:yY}{C N:Addr}{bm:List Value}{hdct:Bool}{newId:String}{x:Sem Value}{Q:Flow->Shared->Prop}(hbase:bm.contains (.type "BaseException")=true)(hh:A.handled=none)
  (h:wpAny M A x (λv s₁=>∃e t od osl,v= .ref e/\s₁.heap.get? C=some (xc.o C N bm hdct newId)/\
   s₁.heap.get? e=some ⟨.ref C,od,.fields #[.ref t,.none,.none,.none,.bool false,.none],osl⟩/\E (.ref e) s₁) E s):wpAny M A (raiseStmt env (some x) none) Q E s:=by
 have hcB:(Value.ref C::bm).contains (.type "BaseException")=true:=by rw[List.contains_cons,hbase,Bool.or_true]
 unfold raiseStmt;refine aa (aK h (λv s₁ h₁=>?_) λI I x=>x);obtain⟨e,t,od,osl,rfl,hC,he,hE⟩:=h₁;obtain⟨hp,g,d,tk,os⟩:=s₁
 repeat (first | with_reducible refine bf he ?_ | with_reducible refine bf hC ?_ | (with_reducible refine wpAny_isSubtype_exc hC ?_;rw[hcB]) | wp_step)
 exact wpAny_raiseNew_none hh hE
def hY:Str:=S [101,114,114,111,114]
def yD:Str:=S [115,116,101,112,115]
def H8:List MS:=[.oth,.asgA (.loc cV) dX (.loc dX),.asgA (.loc cV) dN (.loc dN)]
abbrev HU:Sk Stmt:=.exprS (.meth (.call (.nS "super") .nil) "__init__" (.l [.cst (.str hY)]))
theorem u6{o:Expr}{name:Str}{apos pos:Pos}{x:Str}{k:Nat}{p:Pos}{M:Model}{A:Around}{cd:Code}{E:Value->Shared->Prop}{env:Env}{s:Shared}{Q:Value->Shared->Prop}(hline:(apos.endLine==pos.line)=true)
  (h:PySem.wpAt M A cd (attributeBase o name env (eval o env)) (λov s₁=>∀pl,wpAny M A (getMethod ov name pl) (λr s₂=>wpAny M A (callWith pos r.1 r.2 (backTo pos (starEach [.Constant (.str x) k p] env)) []) Q E s₂) E s₁) E s):
  PySem.wpAt M A cd (eval (.Call (.Attribute o name apos) [.Constant (.str x) k p] [] pos) env) Q E s:=by
 have hpos:methodCallPos true o env apos pos=pure pos:=by unfold methodCallPos;simp [hline]
 rw[arm_eval_Call];refine PySem.wpAt_bind (ks_wpAt_mono h (λov s₁ h₁=>?_) λI I e=>e);refine wpAt_of_wpAny (aa (ba ?_));show wpAny M A (methodCall o name apos pos env ov 1 (backTo pos (starEach [.Constant (.str x) k p] env)) []) Q E s₁;unfold methodCall;rw[show methodCallForm 1 (backTo pos (starEach [.Constant (.str x) k p] env)) []=true from rfl];refine aa (aU (aK (h₁ _) (λr s₂ h₂=>?_) λI I e=>e));exact aa (bV hpos h₂)
structure XF(c:Cx):Prop where
 cls:∃xc:yY,c.K.lookup 120=some (xc.o 120 119 Fi true "Exception.__new__")
 ns:∃mN,c.h₀.Ns 119 mN/\mN "__init__"=some (.ref 117)/\mN "__setattr__"=none/\mN (c.nm dX)=none/\mN (c.nm dN)=none
 ns2:∃mN,c.h₀.Ns 119 mN/\mN (c.nm dX)=none/\mN "__getattribute__"=none/\mN "__getattr__"=none
 opq:nsIn c.K cStatics "thirdparty.any"=some none
 nmN:typeLookup (.type "Exception") (c.nm dX)=pure none
 nmT:typeLookup (.type "Exception") (c.nm dN)=pure none
 fn:∃fd b,tW c 117 [cV,dX,dN] H8 fd b/\Fj fd.scope (.cons HU .any) b=true/\fd.closure=[(("__class__":Str),104)]/\fd.scope.names.lookup ("super":Str)=some .globalImplicit/\
  fd.scope.names.lookup ("__class__":Str)=some .free/\(∃ar,(fd.params.posonlyargs++fd.params.args).head?=some ar/\ar.arg=c.nm cV)/\
  ∃vs file tf co cd sl,fd.code= .ref 116/\c.K.lookup 116=some ⟨co,cd,.fields vs,sl⟩/\vs[2]?=some (.str file tf)/\(c.prog.main.file==file)=true
 fcls:∀o,c.K.lookup 117=some o->o.cls= .type "function"
 cell:∃co cd sl,c.K.lookup 104=some ⟨co,cd,.cell (some (.ref 120)),sl⟩
 top:(c.prog.main.scope.names.lookup ("super":Str)).isSome=false
 sup:c.mg "super"=none/\c.mb "super"=some (.type "super")
 exc:c.mg "SnobolError"=some (.ref 120)
theorem Iq{nm:Nat->Str}{sc:Scope}{a b c:MS}{l:List Stmt}(h:iT nm sc [a,b,c] l=true):∃x y z,l=[x,y,z]/\gI nm sc a x=true/\gI nm sc b y=true/\gI nm sc c z=true:=by
 obtain⟨x,r,rfl,h1,h⟩:=gZ _ _ h;obtain⟨y,r,rfl,h2,h⟩:=gZ _ _ h;obtain⟨z,r,rfl,h3,h⟩:=gZ _ _ h;obtain rfl:=oq _ _ h;exact⟨x,y,z,rfl,h1,h2,h3⟩
theorem zL{nm:Nat->Str}{sc:Scope}{n:Nm}{e:Expr}(h:dO nm sc (.loc n) e):∃p,e= .Name (nm n) p/\sc.names.lookup (nm n)=some .local/\(nm n==("__debug__":Str))=false:=uV _ _ h
theorem KA{c:Cx}(X:c.Ok)(a v u:Value):(((([cV,dX,dN].map c.nm).zip [a,v,u]).reverse).lookup (c.nm cV))=some a/\(((([cV,dX,dN].map c.nm).zip [a,v,u]).reverse).lookup (c.nm dX))=some v/\
  (((([cV,dX,dN].map c.nm).zip [a,v,u]).reverse).lookup (c.nm dN))=some u:=by
 have ne:∀i j,i≠j->(c.nm i==c.nm j)=false:=λi j h=>bK.mpr λz=>h (X.inj _ _ z);have e1:((([cV,dX,dN].map c.nm).zip [a,v,u]).reverse)=[(c.nm dN,u),(c.nm dX,v),(c.nm cV,a)]:=rfl;rw[e1];refine⟨?_,?_,?_⟩
 .rw[aW,ne cV dN ()]
  dsimp only;rw[aW,ne cV dX ()];dsimp only;rw[aW,bC]
 .rw[aW,ne dX dN ()]
  dsimp only;rw[aW,bC]
 .rw[aW,bC]
open PySem.Builtin PySem.Builtin.ObjectAttr in
theorem uT{prog:Program}{w:World}{A:Around}{E:Value->Shared->Prop}{h:Heap}{g:Array GenState}{d:Drawn}{t:Nat}{os:OsState}{xc:yY}{C N x:Addr}{bm:List Value}{B newId sa owner:String}{mN:Str->Option Value}{name:Str}{v:Value}{tk:Tok}{Q:Fin->Shared->Prop}{o:Obj}(SF:StoreFacts B bm sa owner)(hC:h.get? C=some (xc.o C N bm true newId))
  (hn:h.Ns N mN) (hna:mN name=none) (hB:typeLookup (.type B) name=pure none) (hx:h.get? x=some o) (hc:o.cls= .ref C) (hnc:∀c,o.data≠ .cls c) (hdn:o.dict=none)
  (hq:∀h' tk',h'.get? x=some ⟨o.cls,some h.objs.size,o.data,o.slots⟩->h'.Ns1 h.objs.size (λy=>if y=name then some v else none)->(∀b ob,b≠x->h.get? b=some ob->h'.get? b=some ob)->Q (.done (.ret .none)) ⟨h',g,d,tk',os⟩):
  wpAny (model prog w) A (Builtin.«object.__setattr__» ⟨[.ref x,.str name tk,v],[]⟩) Q E ⟨h,g,d,t,os⟩:=by
 have hpass:=SF.passes (.ref x);unfold Builtin.«object.__setattr__»
 repeat (first | rw[refuse_eq] | (rw[refuseLoop_ref,hpass]) | (with_reducible refine bf hx ?_;rw[hc]) | with_reducible refine wpAny_mroOf_exc hC ?_ | (with_reducible refine cI hC hn SF.mro hB ?_;rw[hna]) | wp_step)
 rw[hdn,if_neg (by simp [typeHasDict])]
 split
 .rename_i z;cases z
 split
 .rename_i c z;exact absurd z (hnc c)
 have px:(h.push {cls:=.type "dict",data:=.dict #[]}).get? x=some o:=ae _ hx;have ne:x≠h.objs.size:=bG (ay hx);refine aa (wpAny_alloc' (aa (wpAny_update' px (aE ?_))));generalize hg:((h.push {cls:=.type "dict",data:=.dict #[]}).update x λo=>{cls:=o.cls,dict:=some h.objs.size,data:=o.data,slots:=o.slots})=h2;have gd:h2.get? h.objs.size=some {cls:=.type "dict",data:=.dict #[]}:=by subst hg;exact(Heap.get?_update_ne _ _ _ _ ne.symm).trans (Heap.get?_push_at rfl rfl)
 have gx:h2.get? x=some ⟨o.cls,some h.objs.size,o.data,o.slots⟩:=by
  subst hg;refine bM _ px ?_;have fr:=(Heap.get?_some_iff.mp hx).2;clear hq hnc hdn px hc hx;obtain⟨oc,od,odt,osl⟩:=o;cases odt<;>first | rfl | exact fr
 have kp:∀b ob,b≠x->h.get? b=some ob->h2.get? b=some ob:=λb ob hb z=>by subst hg;exact(Heap.get?_update_ne _ _ _ _ hb).trans (ae _ z)
 show wpAny _ _ (storeInDict h.objs.size (.str name tk) name v) _ _ _;unfold storeInDict newKeyGuard;have nd:h2.Ns h.objs.size (λ_=>none):=⟨_,#[],_,gd,rfl,λe he=>absurd he (by simp),λ_=>rfl⟩
 refine aa (aE (aa (wpAny_nsSet1 (Heap.Ns1.of_empty nd) λh' hn' hs=>?_)));obtain⟨oD,esD,epD,hoD,hdD,hcD⟩:=hn'.count (Within.cons name v Within.nil);refine aa (wpAny_lookBehind hoD (by rw[hdD];exact pastItsLine_dict (ax hcD (by rw[bJ,bI,sizeLine_eq];omega))) ?_);wp_walk;refine hq h' _ ((hs.2 x ne).trans gx) hn' λb ob hb z=>?_;exact(hs.2 b (bG (ay z))).trans (kp b ob hb z)
theorem wQ{prog:Program}{w:World}{A:Around}{E:Value->Shared->Prop}{h:Heap}{g:Array GenState}{d:Drawn}{t:Nat}{os:OsState}{xc:yY}{C N x:Addr}{bm:List Value}{B newId sa owner:String}{mN:Str->Option Value}{name:Str}{v:Value}{Q:Unit->Shared->Prop}{o:Obj}(SF:StoreFacts B bm sa owner)(hC:h.get? C=some (xc.o C N bm true newId))
  (hn:h.Ns N mN) (hns:mN "__setattr__"=none) (hna:mN name=none) (hB:typeLookup (.type B) name=pure none) (hx:h.get? x=some o) (hc:o.cls= .ref C) (hnc:∀c,o.data≠ .cls c) (hdn:o.dict=none)
  (hq:∀h' tk',h'.get? x=some ⟨o.cls,some h.objs.size,o.data,o.slots⟩->h'.Ns1 h.objs.size (λy=>if y=name then some v else none)->(∀b ob,b≠x->h.get? b=some ob->h'.get? b=some ob)->Q Unit.unit ⟨h',g,d,tk',os⟩):
  wpAny (model prog w) A (setAttr (.ref x) name v) Q E ⟨h,g,d,t,os⟩:=by
 have f3:=SF.slot.bind (.ref x);unfold setAttr callSpecial? specialOf
 repeat (any_goals (first | assumption | (with_reducible refine bf hx ?_;rw[hc]) | (with_reducible refine cI hC hn SF.mro SF.slot.lookup ?_;rw[hns]) | wp_step))
 refine codeAny_call_builtin SF.slot.plain SF.entry (wpAny_check_sa SF hC hx hc (uT SF hC hn hna hB hx hc hnc hdn λh' tk' a b e=>?_))
 repeat (any_goals (first | assumption | wp_step))
 exact hq h' tk' a b e
theorem uE{c:Cx}{A:Around}{E:Value->Shared->Prop}{Q:Flow->Shared->Prop}{env:Env}{s:Shared}{y:Stmt}{n m:Nm}{L e:Addr}{mp:Str->Option Value}{v:Value}
  (ck:gI c.nm env.scope (.asgA (.loc cV) n (.loc m)) y=true) (hL:env.locals=L) (hk:env.scope.kind= .function) (hns:s.heap.Ns L mp) (h1:mp (c.nm cV)=some (.ref e)) (h2:mp (c.nm m)=some v)
  (l1:env.scope.names.lookup (c.nm cV)=some .local) (l2:env.scope.names.lookup (c.nm m)=some .local) (q:wpAny c.M A (setAttr (.ref e) (c.nm n) v) (λI s'=>Q .next s') E s):
  wpAny c.M A (exec y env) Q E s:=by
 obtain⟨o',p,v',p',rfl,hn,c1,c2⟩:=xQ _ _ ck;obtain⟨p1,rfl,_,d1⟩:=zL c1;obtain⟨p2,rfl,_,d2⟩:=zL c2;subst hL;refine cC (wpAny_Name (cj hk l2 hns h2 ?_) d2) (m6 hn _ _ _) rfl;show wpAny c.M A (assign (.Attribute (.Name (c.nm cV) p1) _ p) env v) _ E _;rw[arm_assign_Attribute];refine aa (aU (wpAny_Name (cj hk l1 hns h1 ?_) d1));exact aa (ba (aa (aU (aK q (λI s' z=>wpAny_release z) λI I z=>z))))
theorem Ge{o:Obj}{a:Value}{b:Option Addr}{c:Data}(h:o.cls=a)(k:o.dict=b)(l:o.data=c):o=⟨a,b,c,o.slots⟩:=by subst h k l;rfl
nonrec theorem FE{c:Cx}{A:Around}{R:Result->Shared->Prop}(X:c.Ok)(F:XF c){s:Shared}{e t:Addr}{v u:Value}(fre:c.h₀.get? e=none)(sub:∀b o,c.h₀.get? b=some o->s.heap.get? b=some o)(hroom:A.depth<recursionLimit)(he:s.heap.get? e=some ⟨.ref 120,none,.fields #[.ref t,.none,.none,.none,.bool false,.none],#[]⟩)(hR:∀h' tk' t' d o mA,(∀b o,b≠e->s.heap.get? b=some o->h'.get? b=some o)->h'.get? e=some ⟨.ref 120,some d,.fields #[.ref t',.none,.none,.none,.bool false,.none],o⟩->d≠e->s.heap.get? d=none->h'.Ns d mA->mA (c.nm dX)=some v->
   R (.ok (.ret .none)) {s with heap:=h',toks:=tk'}):codeAny c.M A (.call (.ref 117) ⟨[.ref e,v,u],[]⟩) R s:=by
 obtain⟨fd,b,K,cs,hclo,hsu,hkc,⟨ar,har,harg⟩,vs,file,tf,co,cd,csl,hcode,hco,hvs,hfile⟩:=F.fn;obtain⟨oc,od,osl,hf⟩:=K.at_;have inS:c.K.In s.heap:=X.X.keeps sub;obtain⟨y1,y2,y3,rfl,c1,c2,c3⟩:=Iq K.chk;have cf:=qh cs;obtain⟨hy,_⟩:=List.cons.inj cf.1;rw[hy] at K;have hln:=cf.2.1.1;obtain⟨xc,hC⟩:=F.cls;obtain⟨cco,ccd,ccl,hcell⟩:=F.cell;have lim:s.heap.NoLimit:=X.lim.keeps sub;refine ks_codeAny_call_defAt hroom (inS _ _ hf) rfl lim (codeRec_of inS K.code) K.fbody (K.bind _ inS [.ref e,v,u] rfl) K.cell (λx m=>?_) (λh₁ hns kp=>?_) K.co K.gen K.kind
 .obtain⟨j,hj,e⟩:=List.mem_map.mp (cO m).1
  rw[<-e];exact K.loc j hj
 have sub1:∀b o,c.h₀.get? b=some o->h₁.get? b=some o:=λb o z=>kp _ _ (sub b o z);have inH:c.K.In h₁:=X.X.keeps sub1;have lS:fd.scope.names.lookup (c.nm cV)=some .local:=K.loc _ (.head _);refine ks_wpAt_execs_cons (ks_wpAt_Expr_any (u6 hln ?_) (by unfold interactive;rw[show(callEnv fd s.heap.objs.size 117).scope.kind= .function from K.kind];rfl));refine ks_wpAt_super_base (of:=⟨oc,od,.func fd,osl⟩) (oc:=⟨co,cd,.fields vs,csl⟩) hsu hkc (by decide+kernel) rfl (inH _ _ hf) rfl har hcode (inH _ _ hco) rfl hvs hfile F.top ?_;have mg1:h₁.Ns mainGlobals c.mg:=X.g.keeps sub1;have mb1:h₁.Ns builtinsNs c.mb:=X.b.keeps sub1;refine ks_loadName_global K.kind hsu (loadGlobal_builtin (env:=callEnv fd s.heap.objs.size 117) (by rw[show(callEnv fd s.heap.objs.size 117).globals=mainGlobals from K.glob];exact mg1) F.sup.1 (by rw[show(callEnv fd s.heap.objs.size 117).builtins=builtinsNs from K.blt];exact mb1) F.sup.2 ⟨rfl,?_⟩);refine wpAny_loadName_free K.kind hkc (by show(fd.closure.lookup ("__class__":Str))=some 104;rw[hclo];rfl) ⟨_,inH _ _ hcell,rfl⟩ ?_;obtain⟨nself,nnum,ntold⟩:=KA X (Value.ref e) v u;refine cj (v:=.ref e) K.kind (by rw[harg];exact lS) hns (by rw[harg];exact nself) ?_;have e1:=kp _ _ he;have hcl:clsIn c.K 120=some {name:=xc.nm,bases:=xc.bs,mro:=.ref 120::Fi,ns:=119,qualname:=xc.q,hasDict:=true,slotNames:=xc.sn,subclasses:=xc.sub,abstract:=xc.ab,collection:=xc.col,hasDel:=false}:=by unfold clsIn;rw[hC]
 refine ks_wpAny_isType_cls (inH _ _ hC) rfl ⟨rfl,?_⟩;refine ks_wpAny_call_super (inH _ _ hC) rfl e1 rfl (λc z=>by cases z) (looks_mroIn inH (by unfold mroIn;rw[hcl];rfl)) (λh₂ so kp2=>?_);intro pl;have inH2:c.K.In h₂:=inH.keeps kp2;refine u0 so (looks_opaque inH2 F.opq) (l₀:=.ref 120::Fi) (l:=[.type "BaseException",.type "object"]) (λA Q E s k q=>aa ((looks_clsIn inH2 hcl) A _ E s k (aE q))) rfl ?_ (inH2 _ _ hC) (kp2 _ _ e1) rfl rfl ?_
 .intro z
  have:=inS _ _ hC;rw[<-z,he] at this;cases this
 generalize hb3:h₂.push {cls:=.type "method-wrapper",data:=.fields #[.builtin "Exception.__init__",.ref e]}=h₃;have kp3:∀b o,h₂.get? b=some o->h₃.get? b=some o:=λb o z=>by subst hb3;exact ae _ z
 have w3:h₃.get? h₂.objs.size=some {cls:=.type "method-wrapper",data:=.fields #[.builtin "Exception.__init__",.ref e]}:=by subst hb3;exact Heap.get?_push_at rfl rfl
 refine callWith_of (P:=λh=>h.get? h₂.objs.size=some {cls:=.type "method-wrapper",data:=.fields #[.builtin "Exception.__init__",.ref e]}) rfl (λh z=>?_) ?_
 .refine⟨.machine,.inr (.inl rfl),(Looks.ld (part:=none) z).andThen ?_⟩
  exact .now
 refine cu (aF (cH (aN ⟨w3,cR ?_⟩)));have inH3:c.K.In h₃:=inH2.keeps kp3;refine uO (inH3 _ _ hC) (kp3 _ _ (kp2 _ _ e1)) w3 λh₄ e4 kp4=>?_;have kp5:∀b o,b≠e->h₁.get? b=some o->h₄.get? b=some o:=λb o hb z=>kp4 _ _ hb (kp3 _ _ (kp2 _ _ z));obtain⟨mN,n1,n2,n3,n4,n5⟩:=F.ns;have sub4:∀b o,c.h₀.get? b=some o->h₄.get? b=some o:=λb o z=>kp5 b o (λq=>by rw[q,fre] at z;injection z) (sub1 _ _ z);have eL:e<s.heap.objs.size:=ay he;have hns4:h₄.Ns s.heap.objs.size (λx=>((([cV,dX,dN].map c.nm).zip [Value.ref e,v,u]).reverse).lookup x):=by
  obtain⟨o,es,ep,z,r⟩:=hns;exact⟨o,es,ep,kp5 _ _ (Nat.ne_of_gt eL) z,r⟩
 have notC:e≠120:=λz=>by
  have:=X.X _ _ hC;rw[<-z,fre] at this;injection this
 have inH4:c.K.In h₄:=X.X.keeps sub4;refine PySem.wpAt_of_wpAny (ak ?_);refine uE (n:=dX) (m:=dX) (L:=s.heap.objs.size) c2 rfl K.kind hns4 nself nnum lS (K.loc _ (.tail _ (.head _))) ?_;refine wQ PySem.F.store_Exception (inH4 _ _ hC) (n1.keeps sub4) n3 n4 F.nmN e4 rfl (λI q=>by cases q) rfl λh₅ tk5 e5 d5 kp6=>?_;have sub5:∀b o,c.h₀.get? b=some o->h₅.get? b=some o:=λb o z=>kp6 b o (λq=>by rw[q,fre] at z;injection z) (sub4 _ _ z);have hns5:h₅.Ns s.heap.objs.size (λx=>((([cV,dX,dN].map c.nm).zip [Value.ref e,v,u]).reverse).lookup x):=by
  obtain⟨o,es,ep,z,r⟩:=hns4;exact⟨o,es,ep,kp6 _ _ (Nat.ne_of_gt eL) z,r⟩
 have e4s:e<h₄.objs.size:=ay e4;refine ak ?_;refine uE (n:=dN) (m:=dN) (L:=s.heap.objs.size) c3 rfl K.kind hns5 nself ntold lS (K.loc _ (.tail _ (.tail _ (.head _)))) ?_;refine store_attr (ns:=[c.nm dX]) PySem.F.store_Exception (X.X.keeps sub5 _ _ hC) (n1.keeps sub5) n3 n5 F.nmT notC ⟨_,e5,rfl,(λI q=>by cases q),.inr ⟨_,rfl,(bG e4s).symm,d5⟩⟩ (λh₆ tk6 I6 kp7 dd6=>?_) (λy hy=>?_) (by show 1<=sizeLine;decide)
 .obtain⟨o6,e6,cl6,da6,sl6,di6⟩:=dd6 _ e5
  obtain⟨o6',e6',_,_,I6⟩:=I6;have eo:o6=o6':=ac (e6.symm.trans e6');have di:=di6 _ rfl;rw[<-eo,di] at I6;rcases I6 with⟨z,_⟩ | ⟨dx,z,nx,N6⟩
  .injection z
  .injection z with z
   rw[<-z] at nx N6;refine aM ?_;refine hR h₆ tk6 h₃.objs.size _ o6.slots _ (λb o hb z=>?_) ?_ nx ?_ N6.ns ?_
   .have:=ay (kp5 _ _ hb (kp _ _ z))
    exact kp7 b o hb (λo₀ dx z1 z2=>by rw[<-ac (e5.symm.trans z1)] at z2;injection z2 with z2;rw[<-z2];exact bG this) (kp6 _ _ hb (kp5 _ _ hb (kp _ _ z)))
   .rw[e6]
    exact az some (Ge cl6 di da6)
   .cases z:s.heap.get? h₄.objs.size with
    |none=>rfl
    |some o=>exact absurd (ay (kp5 _ _ (bG e4s).symm (kp _ _ z))) (bD _)
   .show(if c.nm dX=c.nm dN then _ else _)=_
    rw[if_neg (λz=>absurd (X.inj _ _ z) ()),if_pos rfl]
 .by_cases z:y=c.nm dX
  .rw[z];exact .head _
  .exact absurd (if_neg z) hy
end
section
variable{l₀:List Nat} {fi:Nat} {I':List O} {ch:List Ch} {cs:List Prop} {env:Env}
theorem jJ{b:Bs}{r n:Nat}{σ:List O}(G:dI b){m:MS}{fl:Fl}(h:Option.map qi (ju (Pg (fe l₀) (Ct b r) (Lt b r) r) (ev (Pg (fe l₀) (Ct b r) (Lt b r) r) n) m fi ⟨σ,ch,[]⟩)=some (fl,I',cs))(hc:jx cs)(h0:l₀.all (λf=>(oa.fn f).isSome)=true:=by decide)
  {A:Around} {x:Stmt} {s:Shared} {ρ:List Addr} {Q:Flow->Shared->Prop} {E:Value->Shared->Prop} (rm:ee A (n+1+r)) (en:dE env fi ρ) (ck:gI nmT env.scope m x) (R:(C b).R ρ σ s.heap)
  (q:∀ρ' s' N1,(C b).Rs ρ σ s ρ' I' s'->qJ ρ' s'.heap fl N1->Q N1 s'):wpAny (C b).M A (exec x env) Q E s:=by
 obtain⟨⟨f,st⟩,e1,e2⟩:=aq.mp h;obtain⟨rfl,rfl,rfl⟩:f=fl/\st.os=I'/\st.cs=cs:=by simpa only[bc] using e2
 have X:=jQ (c:=C b) (r:=r) (orc:=fe l₀) G.X;have Y:=gX (c:=C b) (r:=r) G.F (dD G h0);obtain⟨he,ht,hs,_⟩:=gR X Y n;exact(vl X Y he ht hs _ _ _ _ _ e1 (gj hc)).2 A env x s ρ Q E rm en ck R (λI I e=>by cases e) q
theorem jh{b:Bs}{r n:Nat}{σ:List O}(G:dI b){m:ME}{v:V}(h:Option.map qa ((ev (Pg (fe l₀) (Ct b r) (Lt b r) r) n).e m fi ⟨σ,ch,[]⟩)=some (v,I',cs))(hc:jx cs)(h0:l₀.all (λf=>(oa.fn f).isSome)=true:=by decide)
  {A:Around} {x:Expr} {s:Shared} {ρ:List Addr} {Q E:Value->Shared->Prop} (rm:ee A (n+r)) (en:dE env fi ρ) (ck:dO nmT env.scope m x) (R:(C b).R ρ σ s.heap)
  (q:∀ρ' s' y,(C b).Rs ρ σ s ρ' I' s'->dH ρ' s'.heap v y->Q y s'):wpAny (C b).M A (eval x env) Q E s:=by
 obtain⟨⟨f,st⟩,e1,e2⟩:=aq.mp h;obtain⟨rfl,rfl,rfl⟩:f=v/\st.os=I'/\st.cs=cs:=by simpa only[bc] using e2
 have X:=jQ (c:=C b) (r:=r) (orc:=fe l₀) G.X;have Y:=gX (c:=C b) (r:=r) G.F (dD G h0);exact((gR X Y n).1 _ _ _ _ _ e1 (gj hc)).2 A env x s ρ Q E rm en ck R (λI I e=>by cases e) q
abbrev Gz(q:Bool×St):Bool×List O×List Prop:=(q.1,q.2.os,q.2.cs)
theorem pN{b:Bs}{r n:Nat}{σ:List O}(G:dI b){m:ME}{v:Bool}(h:Option.map Gz ((ev (Pg (fe l₀) (Ct b r) (Lt b r) r) n).t m fi ⟨σ,ch,[]⟩)=some (v,I',cs))(hc:jx cs)(h0:l₀.all (λf=>(oa.fn f).isSome)=true:=by decide)
  {A:Around} {x:Expr} {s:Shared} {ρ:List Addr} {Q:Bool->Shared->Prop} {E:Value->Shared->Prop} (rm:ee A (n+r)) (en:dE env fi ρ) (ck:dO nmT env.scope m x) (R:(C b).R ρ σ s.heap)
  (q:∀ρ' s',(C b).Rs ρ σ s ρ' I' s'->Q v s'):wpAny (C b).M A (PySem.isTrue x env (eval x env)) Q E s:=by
 obtain⟨⟨f,st⟩,e1,e2⟩:=aq.mp h;obtain⟨rfl,rfl,rfl⟩:f=v/\st.os=I'/\st.cs=cs:=by simpa only[bc] using e2
 have X:=jQ (c:=C b) (r:=r) (orc:=fe l₀) G.X;have Y:=gX (c:=C b) (r:=r) G.F (dD G h0);exact((gR X Y n).2.1 _ _ _ _ _ e1 (gj hc)).2 A env x s ρ Q E rm en ck R (λI I e=>by cases e) q
end
abbrev uY:Sk Stmt:=.raise (.call (.gS "SnobolError") (.l [.cst (.int 22),.cst (.str yD)]))
def J2(c:Cx):eZ:=λhm fs a=>∃t d o mA tk,hm.get? a=some ⟨.ref 120,some d,.fields #[.ref t,.none,.none,.none,.bool false,.none],o⟩/\d≠a/\d∉fs/\hm.Ns d mA/\mA (c.nm dX)=some (.int 22 tk)
nonrec theorem tV{A:Around}{env:Env}{ρ:List Addr}{σ:List O}{l:List Env}{Q:Flow->Shared->Prop}{E:Value->Shared->Prop}{fi:Nat}{x:Stmt}{{c:Cx}}(X:c.Ok)(F:XF c){s:Shared}(dp:A.depth+2<recursionLimit)(hh:A.handled=none)(en:dE env fi ρ)(ck:fE env.scope uY x)(R:c.R ρ σ s.heap)(fr:iZ c.h₀ l A ρ σ s.heap)(q:∀s' a,d9 c (J2 c) l ρ σ s σ ρ a s'->E (.ref a) s'):wpAny c.M A (exec (bE uY x) env) Q E s:=by
 have hl:=ck.1;show wpAny c.M A (exec (.Raise (some (bE (.call (.gS "SnobolError") (.l [.cst (.int 22),.cst (.str yD)])) (sO x))) none (sQ x)) env) Q E s;obtain⟨xc,hC⟩:=F.cls;have inS:c.K.In s.heap:=X.X.keeps R.old;have g:=X.g.keeps R.old;rw[<-en.glob] at g;obtain⟨mN,n1,n2,n3,n4,n5⟩:=F.ns;obtain⟨fd,bd,KI,_⟩:=F.fn;obtain⟨oc,od,osl,hfI⟩:=KI.at_;have hfc:oc= .type "function":=F.fcls _ hfI;rw[arm_exec_Raise];refine aa (ba (vW (C:=120) (xc:=xc) (N:=119) (bm:=Fi) (hdct:=true) (newId:="Exception.__new__") (by rfl) hh ?_));refine aa (aK (wpAny_Call_ofName (Name_function_global en.kind hl (loadGlobal_global g F.exc ?_) (by decide+kernel))) (λv s₃ h₃=>aa (ba (aE h₃))) λI I x=>x);unfold callWith;refine aa (aU (aK (Q:=λa s'=>a=⟨[.int 22 s.toks,.str yD (s.toks+1)],[]⟩/\s'={s with toks:=s.toks+1+1}) (cu (aF (aR (aF (cH (aN ⟨rfl,rfl⟩)))))) (λa s' h=>aa (ba ?_)) λI I x=>x));obtain⟨rfl,rfl⟩:=h;obtain⟨hp,gn,dr,tk,os⟩:=s;refine aa (wpAny_keeperOf_exc (inS _ _ hC) ?_);refine aa (wpAny_call_exc_init PySem.F.excBase_Exception (inS _ _ hC) (n1.keeps R.old) n2 (inS _ _ hfI) hfc λh' e hm=>?_);obtain⟨t,ht,tn,hT⟩:=hm.there;have fre:c.h₀.get? e=none:=by
  cases z:c.h₀.get? e with
  |none=>rfl
  |some o=>have:=R.old _ _ z;rw[show hp.get? e=none from hm.new] at this;cases this
 refine cR (FE X F fre (λb o z=>hm.keeps _ _ (R.old b o z)) ?_ ht λh2 tk2 t2 d o mA kp e2 ne fd2 ns2 hv=>?_)
 .simp only[depth_under_make];omega
 refine⟨rfl,aa (aU (wpAny_point (aE ?_)))⟩;have kpA:∀b o,hp.get? b=some o->h2.get? b=some o:=λb o z=>kp b o (λy=>by subst y;rw[show hp.get? b=none from hm.new] at z;cases z) (hm.keeps _ _ z);have dn:hp.get? d=none:=by
  cases z:hp.get? d with
  |none=>rfl
  |some o=>have:=hm.keeps _ _ z;rw[fd2] at this;cases this
 refine⟨e,t2,some d,o,rfl,kpA _ _ (inS _ _ hC),e2,q _ e ⟨⟨h2,gn,dr,tk2,os⟩,l.filterMap (·.frame),.more0 R kpA rfl rfl,EO.start e2 rfl rfl,⟨t2,d,o,mA,_,e2,ne,λm=>?_,ns2,hv⟩,λb m=>m,?_,λb m y=>fr.ap b m y,λm=>?_,⟨rfl,rfl⟩,λb m=>.inl m,.inl hm.new⟩⟩
 .obtain⟨_,o,z,_⟩:=fr.ff.mem m
  rw[show hp.get? d=none from dn] at z;cases z
 .exact i8 (λL I o e hn=>⟨o,kpA L o e,hn⟩) fr.ff
 .obtain⟨o,z⟩:=R.there m
  rw[show hp.get? e=none from hm.new] at z;cases z
theorem xG{c:Cx}(X:c.Ok){f:Addr}{ps:List Nm}{body:List MS}{fd:FuncData}{bd:List Stmt}(K:tW c f ps body fd bd){EI:eZ}{n:Nat}{vs:List V}{os H':List O}{b:List (Nm×V)}(eb:pZ ps vs=some b){g:Nat->Option Nat}{os'':List O}(T:dg c os.length g H' (·=os''))
  (H:∀(A:Around) (env:Env) (s:Shared) (ρ:List Addr) (l:List Env) (Q:Flow->Shared->Prop) (E:Value->Shared->Prop),ee A n->dE env os.length ρ->env.scope=fd.scope->c.R ρ (os++[.frame b]) s.heap->iZ c.h₀ l A ρ (os++[.frame b]) s.heap->PassesOwn c.M A env E->
   (∀ρ' s' a,d9 c EI l ρ (os++[.frame b]) s H' ρ' a s'->E (.ref a) s')->wpAny c.M A (execs bd env) Q E s):eU (c.at (n+1)) EI f vs os os'':=by
 intro A xs s ρ l E rm R0 ad fr vr q;have rm:ee A (n+1):=rm;have R0:c.R ρ os s.heap:=R0;obtain⟨oc,od,osl,hf⟩:=K.at_;have len:xs.length=ps.length:=by rw[vr.length,rt eb]
 have lim:s.heap.NoLimit:=X.lim.keeps R0.old;refine codeAny_call_def (by have:=rm.depth;omega) (X.In R0 _ _ hf) rfl lim (codeRec_of (X.In R0) K.code) K.fbody (K.bind _ (X.In R0) xs len) K.cell (λx m=>?_) (λh₀ hns kp=>?_) K.co K.gen K.kind
 .obtain⟨j,hj,e⟩:=List.mem_map.mp (cO m).1
  rw[<-e];exact K.loc j hj
 .have r0:c.Rs ρ os s (ρ++[s.heap.objs.size]) (os++[.frame b]) {s with heap:=h₀,toks:=s.toks+((ps.map c.nm).zip xs).length}:=by
   refine eR.pushC (o:=.frame b) R0 kp (λx m=>by cases aj.mp m;exact fA s) ⟨_,hns,λk v e=>?_⟩ rfl rfl ?_
   .obtain⟨x,e1,e2⟩:=pF X.inj eb vr K.nodup e
    exact⟨x,e1,e2.up (.app _ _) (.of_keeps kp)⟩
   .obtain⟨o,es,ep,ho,_⟩:=hns
    exact aZ (ay ho)
  have en:dE (callEnv fd s.heap.objs.size f) os.length (ρ++[s.heap.objs.size]):=⟨K.kind,by rw[<-R0.len];exact gr _ _,K.glob,K.blt⟩
  have fr':iZ c.h₀ (callEnv fd s.heap.objs.size f::l) (A.deeper (callEnv fd s.heap.objs.size f)) (ρ++[s.heap.objs.size]) (os++[.frame b]) h₀:=
   fr.push (env:=callEnv fd s.heap.objs.size f) r0.rel rfl K.kind R0.len kp (fA s)
  refine H (A.deeper _) _ _ _ (callEnv fd s.heap.objs.size f::l) _ _ ⟨?_,?_,rm.handled⟩ en rfl r0.rel fr' PassesOwn.leaving λρ1 s1 a x=>?_
  .show A.depth+1+n<recursionLimit
   have:=rm.depth;omega
  .show A.units+3+8*n<cLine
   have:=rm.units;omega
  .have x0:d9 c EI _ ρ os s H' ρ1 a s1:=x.after r0
   obtain⟨ρ1,σ4,rfl,x⟩:=x0.tell T (ao _) R0.len;exact x.leave fr'.fr rfl (.inl (fA s)) λs2 x2=>q ρ1 s2 a x2
abbrev u2:Sk (List Stmt):=.l [.any,.if_ .any (.l [uY]) .any]
def oU(c:Cx):Prop:=∃fd bd,tW c 573 [cV] gf fd bd/\Fj fd.scope u2 bd=true
section
variable(sp:jA) (sl:jz) (r:Nat)
abbrev Ii(lim st:Int)(R V0 L:O):List O:=[R,.inst 576 [(gu,.obj 2),(dJ,.int true lim),(fS,.obj 3),(gK,.int true st),(eP,.obj 4)],V0,.list true [],L,.frame [(cV,.obj 1)]]
theorem Gu(lim st:Int)(R V0 L:O):Option.map qi (ju (Pg (fe []) sp sl r) (ev (Pg (fe []) sp sl r) 8) (lU gf 0) 5 ⟨Ii lim st R V0 L,[],[]⟩)=some (.next,Ii lim (st+1) R V0 L,[]):=by
 walk_at"k"
theorem FP(lim st:Int)(R V0 L:O):Option.map Gz ((ev (Pg (fe []) sp sl r) 8).t (.cmp .Gt (.attr (.loc cV) gK) (.attr (.loc cV) dJ)) 5 ⟨Ii lim st R V0 L,[.b true],[]⟩)=some (true,Ii lim st R V0 L,[decide (lim<st)=true]):=by
 walk_at"k"
end
theorem Dg{b:Bs}(G:dI b)(F:XF (C b))(S:oU (C b)):ik b (J2 (C b)):=by
 intro lim st lg h1 h2;obtain⟨fd,bd,K,ck⟩:=S;obtain⟨l,rfl,cl⟩:∃l,bd=bE u2 l/\fE fd.scope u2 l:=⟨_,qh ck⟩
 have cy:=cl.2.1.2.1.1;have c1:gI (C b).nm fd.scope (lU gf 0) (Kk l):=(cW (cW K.chk).1).2;have k1:dO (C b).nm fd.scope (.cmp .Gt (.attr (.loc cV) gK) (.attr (.loc cV) dJ)) (sT (Kk l.tail))=true:=(cW (cW (cW (cW (cW (cW K.chk).2).1).2).1).1).2;have T:dg (C b) 5 (fb [0,1,2,3,4]) (Ii (lim:Int) ((st:Int)+1) cY (valO lg) (dz lg)) (·=[cY,dG lim (st+1),valO lg,.list true [],dz lg]):=
  dg.sel (I':=[cY,dG lim (st+1),valO lg,.list true [],dz lg]) rfl () (fj rfl) (.k .ref (.k (.host rfl rfl rfl) (.k (.valO lg) (.k (.l .z) (.k (.log lg) .z)))))
 refine xG G.X K (n:=39) (H':=Ii (lim:Int) ((st:Int)+1) cY (valO lg) (dz lg)) (b:=[(cV,.obj 1)]) rfl T λA env s ρ l Q E rm en sc R fr pe q=>?_;have R:(C b).R ρ (Ii (lim:Int) (st:Int) cY (valO lg) (dz lg)) s.heap:=R;have fr:iZ (C b).h₀ l A ρ (Ii (lim:Int) (st:Int) cY (valO lg) (dz lg)) s.heap:=fr;refine ak (jJ G (Gu _ _ 0 _ _ _ _ _) trivial rfl (rm.less ()) en (by rw[sc];exact c1) R λρ1 s1 N1 r1 v1=>?_);cases v1;refine ak (wpAny_If (pN G (FP _ _ 0 _ _ _ _ _) ⟨av (by omega),N4⟩ rfl (rm.less ()) (en.grow r1.grow) (by rw[sc];exact k1) r1.rel λρ2 s2 r2=>?_));rw[if_pos rfl];refine ak (tV G.X F (by have:=rm.depth;omega) rm.handled (en.grow (r1.trans r2).grow) (by rw[sc];exact cy) r2.rel (fr.res (r1.trans r2)) λs3 a x=>?_);exact q ρ2 s3 a (x.after (r1.trans r2))
nonrec theorem wi{A:Around}{E:Value->Shared->Prop}{h:Heap}{g:Array GenState}{d:Drawn}{t:Nat}{os:OsState}{xc:yY}{C N:Addr}{newId:String}{M:Model}{a:Addr}{o:Obj}{nameV:Value}{Q:Unit->Shared->Prop}(hC:h.get? C=some (xc.o C N Fi true newId))(hx:h.get? a=some o)(hc:o.cls= .ref C)(hq:Q Unit.unit ⟨h,g,d,t,os⟩):
  wpAny M A (checkBuiltinCall "BaseException.__getattribute__" ⟨[.ref a,nameV],[]⟩) Q E ⟨h,g,d,t,os⟩:=by
 have hk:builtinKind "BaseException.__getattribute__"=some .slot:=by decide+kernel
 have hs:splitId "BaseException.__getattribute__"=some ("BaseException","__getattribute__"):=by decide+kernel
 have hb:(Value.ref C::Fi).contains (.type "BaseException")=true:=by rw[List.contains_cons];rfl
 have ha:=PySem.F.args_bexc_ga (.ref a) nameV;simp only[checkBuiltinCall,hk,hs];refine aa ?_;unfold isInstance
 repeat (first | (with_reducible refine bf hx ?_;rw[hc]) | (with_reducible refine wpAny_isSubtype_exc hC ?_;rw[hb]) | wp_step)
 exact hq
section
variable{name:Str} {newId:String}
theorem FH{es:Array DictEntry}{v:Value}(q:nsFind es name=some v):∃e,es.find? (λx=>x.key.isStr name)=some e/\v=e.val:=by
 unfold nsFind findBy at q;cases z:es.find? (λx=>x.key.isStr name) with
 |none=>rw[z] at q;cases q
 |some e=>rw[z] at q;exact⟨e,rfl,(ac q).symm⟩
theorem tM{prog:Program}{w:World}{A:Around}{E:Value->Shared->Prop}{h:Heap}{g:Array GenState}{d:Drawn}{t:Nat}{os:OsState}{xc:yY}{C N:Addr}{a:Addr}{vs:Array Value}{sl:Array (Option Value)}{dx:Addr}{tk:Tok}{v:Value}{mN mA:Str->Option Value}{Q:Fin->Shared->Prop}(hC:h.get? C=some (xc.o C N Fi true newId))(hn:h.Ns N mN)(hna:mN name=none)
  (hB:typeLookup (.type "Exception") name=pure none) (hx:h.get? a=some ⟨.ref C,some dx,.fields vs,sl⟩) (hns:h.Ns dx mA) (hv:mA name=some v) (hq:Q (.done (.ret v)) ⟨h,g,d,t,os⟩):
  wpAny (model prog w) A (Builtin.«object.__getattribute__» ⟨[.ref a,.str name tk],[]⟩) Q E ⟨h,g,d,t,os⟩:=by
 unfold Builtin.«object.__getattribute__»
 repeat (first | (with_reducible refine bf hx ?_) | (with_reducible refine cI hC hn PySem.F.excBase_Exception.mroIs hB ?_;rw[hna]) | wp_step)
 obtain⟨oD,es,ep,e1,e2,e3,e4⟩:=hns;refine bf e1 ?_;obtain⟨e,z,ev⟩:=FH ((e4 name).trans hv);rw[nsLook_eq];unfold nsLookByArray;rw[e2];dsimp only;rw[z]
 repeat (first | wp_step)
 exact ev▸hq
theorem vh{prog:Program}{w:World}{A:Around}{E:Value->Shared->Prop}{h:Heap}{g:Array GenState}{d:Drawn}{t:Nat}{os:OsState}{xc:yY}{C N:Addr}{a:Addr}{vs:Array Value}{sl:Array (Option Value)}{dx:Addr}{v:Value}{mN mA:Str->Option Value}{expr:Bool}{Q:Value->Shared->Prop}(hC:h.get? C=some (xc.o C N Fi true newId))(hn:h.Ns N mN)(hna:mN name=none)
  (hg1:mN "__getattribute__"=none) (hg2:mN "__getattr__"=none) (hB:typeLookup (.type "Exception") name=pure none) (hx:h.get? a=some ⟨.ref C,some dx,.fields vs,sl⟩) (hns:h.Ns dx mA) (hv:mA name=some v) (hh:handedOut v=pure v) (hq:Q v ⟨h,g,d,t+1,os⟩):
  wpAny (model prog w) A (getAttr (.ref a) name expr) Q E ⟨h,g,d,t,os⟩:=by
 have f3:=PySem.F.attr_Exception.ga.bind (.ref a);have hx0:(expr&&onTheHeap (Value.builtin "BaseException.__getattribute__"))=false:=by cases expr<;>rfl
 have hx2:(Value.builtin "BaseException.__getattribute__"==Value.builtin "object.__getattribute__")=false:=by decide+kernel
 have hx1:(onTheHeap (Value.ref C)&&Value.builtin "BaseException.__getattribute__"==Value.builtin "object.__getattribute__")=false:=by rw[hx2];rfl
 unfold getAttr getAttrBy
 repeat (any_goals (first | assumption | (with_reducible refine bf hx ?_) | (with_reducible refine cI hC hn PySem.F.excBase_Exception.mroIs PySem.F.attr_Exception.ga.lookup ?_;rw[hg1]) | (with_reducible refine cI hC hn PySem.F.excBase_Exception.mroIs PySem.F.attrBase_Exception.noGetattr ?_;rw[hg2]) | wp_step))
 refine codeAny_call_builtin PySem.F.attr_Exception.ga.plain PySem.F.entry_bexc_ga (wi hC hx rfl (tM hC hn hna hB hx hns hv ?_));show wpAny _ _ (handedOut v) _ _ _;rw[hh];exact aE hq
end
section
variable{A:Around} {E:Value->Shared->Prop} {s s':Shared} {a:Addr} {Q:Unit->Shared->Prop} {EI:eZ} {ρ':List Addr} {σ':List O}
theorem Br{M:Model}{base hm:Heap}{fs:List Addr}{env:Env}{outer:List Env}{L:Addr}
  (hfr:A.frames=some (env::outer)) (hl:hm.FunFrames base (env::outer)) (hf:env.frame=some L) (hin:∀b∈(env::outer).filterMap (·.frame),b∈fs)
  (F:EO hm fs a s.heap) (h:∀h',EO hm fs a h'->Q Unit.unit {s with heap:=h'}):wpAny M A (noteFrame (.ref a) env) (λI s'=>wpAny M A (setFlight (.ref a) none) Q E s') E s:=by
 obtain⟨h1,h2,oe,vs,vs',e0,hd,e1,hz,hT⟩:=F;unfold noteFrame;simp only[hf];rcases hT with h3 | ⟨T,oT,ts,h3,hn,eT,dT,h4⟩
 .refine aa (cD e1 rfl h3 ?_)
  rw[if_neg ()];exact m8 hfr hl hf hin h1 h2 e0 hd e1 hz h
 .refine aa (cD e1 rfl h3 ?_)
  rw[if_pos (show(Value.ref T != Value.none)=true from by simp)];refine aa (cD eT dT h4 ?_);rw[if_neg (show¬((Value.none==rawInt L)=true) from by simp [rawInt])];refine aa (wpAny_setField eT dT (bT.mp h4).1 ?_);have ne:∀b o,hm.get? b=some o->T≠b:=λb o e z=>by subst z;rw[hn] at e;cases e
  refine m8 (vs':=vs') hfr hl hf hin (λb o e m hb=>?_) (λb o e hb=>?_) e0 hd ?_ hz h
  .exact(aL _ _ (ne b o e)).trans (h1 b o e m hb)
  .obtain⟨sl,q⟩:=h2 b o e hb
   exact⟨sl,(aL _ _ (ne b o e)).trans q⟩
  .exact(aL _ _ (ne a oe e0)).trans e1
theorem tT{M:Model}{hm:Heap}{fs:List Addr}(F:EO hm fs a s.heap)(h:∀h',EO hm fs a h'->Q Unit.unit {s with heap:=h'}):wpAny M A (setFlight (.ref a) none) Q E s:=by
 have F':=F;obtain⟨h1,h2,oe,vs,vs',e0,hd,e1,hz,hT⟩:=F;unfold setFlight;rcases hT with h3 | ⟨T,oT,ts,h3,hn,eT,dT,h4⟩
 .refine aa (cD e1 rfl h3 ?_)
  rw[if_neg ()];exact aE (h _ F')
 .refine aa (cD e1 rfl h3 ?_)
  rw[if_pos (show(Value.ref T != Value.none)=true from by simp)];refine wpAny_setField eT dT (bT.mp h4).1 (h _ ?_);have ne:∀b o,hm.get? b=some o->T≠b:=λb o e z=>by subst z;rw[hn] at e;cases e
  refine⟨λb o e m hb=>?_,λb o e hb=>?_,oe,vs,vs',e0,hd,?_,hz,.inr ⟨T,_,ts.setIfInBounds 3 .none,h3,hn,bM _ eT (Obj.isFreed_of_fields (Obj.data_mapFields dT _)),Obj.data_mapFields dT _,?_⟩⟩
  .exact(aL _ _ (ne b o e)).trans (h1 b o e m hb)
  .obtain⟨sl,q⟩:=h2 b o e hb
   exact⟨sl,(aL _ _ (ne b o e)).trans q⟩
  .exact(aL _ _ (ne a oe e0)).trans e1
  .rw[Array.getElem?_setIfInBounds_self_of_lt (bT.mp h4).1]
theorem d9.noted{c:Cx}{l:List Env}{ρ:List Addr}{σ:List O}{env:Env}{L:Addr}(x:d9 c EI (env::l) ρ σ s σ' ρ' a s')(hfr:A.frames=some (env::l))(hf:env.frame=some L)
  (q:∀s'',d9 c EI (env::l) ρ σ s σ' ρ' a s''->Q Unit.unit s''):wpAny c.M A (noteFrame (.ref a) env) (λI s1=>wpAny c.M A (setFlight (.ref a) none) Q E s1) E s':=by
 obtain⟨sm,fs,h1,h2,h3,h4,h5,h6,h7,h8,h9,h10⟩:=x;exact Br hfr h5 hf h4 h2 λh' F=>q _ ⟨sm,fs,h1,F,h3,h4,h5,h6,h7,h8,h9,h10⟩
theorem d9.flight{c:Cx}{l:List Env}{ρ:List Addr}{σ:List O}(x:d9 c EI l ρ σ s σ' ρ' a s')(q:∀s'',d9 c EI l ρ σ s σ' ρ' a s''->Q Unit.unit s''):wpAny c.M A (setFlight (.ref a) none) Q E s':=by
 obtain⟨sm,fs,h1,h2,h3,h4,h5,h6,h7,h8,h9,h10⟩:=x;exact tT h2 λh' F=>q _ ⟨sm,fs,h1,F,h3,h4,h5,h6,h7,h8,h9,h10⟩
theorem d9.rs{c:Cx}{l:List Env}{ρ:List Addr}{σ:List O}(R0:c.R ρ σ s.heap)(hl:∀L∈l.filterMap (·.frame),L∈dA ρ σ)(x:d9 c EI l ρ σ s σ' ρ' a s'):c.Rs ρ σ s ρ' σ' s':=by
 obtain⟨sm,fs,r,F,ei,h4,h5,h6,h7,⟨g1,g2⟩,h9,h10⟩:=x;have inF:∀b∈fs,s.heap.get? b=none\/b∈dA ρ σ:=λb m=>(h9 b m).elim (λz=>.inr (hl b z)) id;have notB:∀b o,s.heap.get? b=some o->b∉dA ρ σ->b∉fs/\b≠a:=λb o e m=>by
  refine⟨λz=>?_,λz=>?_⟩
  .rcases inF b z with q | q
   .rw[q] at e;cases e
   .exact m q
  .subst z
   rcases h10 with q | q
   .rw[q] at e;cases e
   .exact m q
 have oldB:∀b o,c.h₀.get? b=some o->b∉fs/\b≠a:=λb o e=>by
  refine notB b o (R0.old b o e) λm=>?_;rw[R0.new b m] at e;cases e
 have offF:∀i b o,nth ρ' i=some b->nth σ' i=some o->∀y∈foot b o,y∈fs->∃m,o= .frame m/\y=b:=λi b o e1 e2 y my mf=>by
  obtain⟨j,m,e3,e4⟩:=h6 y mf (dC.mpr ⟨i,b,o,e1,e2,my⟩)
  by_cases z:i=j
  .subst z
   rw[e1] at e3;cases e3;rw[e2] at e4;cases e4;exact⟨m,rfl,rfl⟩
  .exact absurd (.head _) (r.rel.apart i j b y o (.frame m) e1 e2 e3 e4 z y my)
 have tk:fV sm.heap s'.heap:=λt z' ⟨o,e,hc,n,hd⟩=>by
  by_cases z:t=a
  .subst z
   obtain⟨oe,vs,_,e0,hv,_⟩:=F.exc;rw[e] at e0;cases e0;rw[hd] at hv;cases hv
  .obtain⟨sl,q⟩:=F.slots t o e z
   exact⟨_,q,hc,n,hd⟩
 have rel:c.R ρ' σ' s'.heap:=by
  refine⟨r.rel.len,λi b o e1 e2=>?_,r.rel.apart,r.rel.new,λb o e=>?_⟩
  .have rp:=r.rel.rep i b o e1 e2
   have na:∀y∈foot b o,y≠a:=λy my z=>h7 (z▸dC.mpr ⟨i,b,o,e1,e2,my⟩)
   by_cases z:∃m,o= .frame m
   .obtain⟨m,rfl⟩:=z
    obtain⟨mp,⟨o',es,ep,ho,hd,u'⟩,w⟩:=rp;obtain⟨sl,q⟩:=F.slots b o' ho (na b (.head _));exact⟨mp,⟨_,es,ep,q,hd,u'⟩,λn v e=>by obtain⟨x,a1,a2⟩:=w n v e;exact⟨x,a1,a2.up (.refl _) tk⟩⟩
   .exact rp.up (.refl _) tk λy my ob eb=>F.same y ob eb (λmf=>z (by obtain⟨m,e,_⟩:=offF i b o e1 e2 y my mf;exact⟨m,e⟩)) (na y my)
  .obtain⟨z1,z2⟩:=oldB b o e
   exact F.same b o (r.rel.old b o e) z1 z2
 refine⟨r.grow,rel,λb o e m=>?_,r.fresh,g1.trans r.gens,g2.trans r.os,r.frm⟩;obtain⟨z1,z2⟩:=notB b o e m;exact F.same b o (r.keep b o e m) z1 z2
end
theorem wv{α:Type}(l r:List α):nth (l++r) l.length=nth r 0:=by simpa using jW l r 0
theorem mw{α:Type}(l r:List α):nth (l++r) (l.length+1)=nth r 1:=jW l r 1
theorem uD{α:Type}:∀(l:List α) (a b x:α),setN (l++[a,b]) l.length x=l++[x,b]
 |[],_,_,_=>rfl
 |y::l,a,b,x=>az (y::·) (uD l a b x)
theorem qf{α:Type}:∀(l:List α) (a b x:α),setN (l++[a,b]) (l.length+1) x=l++[a,x]
 |[],_,_,_=>rfl
 |y::l,a,b,x=>az (y::·) (qf l a b x)
theorem F4{c:Cx}{A:Around}{E:Value->Shared->Prop}{s:Shared}{Q:Value->Shared->Prop}{N2:qX}{ge:Addr}{j:Nat}{ρ:List Addr}(x:jI N2 ge j ρ s.heap)(q:Q (.ref ge) s):wpAny c.M A (pyIter (.ref ge)) Q E s:=by
 cases N2 with
 |lst i xs=>
  obtain⟨a,_,hit⟩:=x;exact wpAny_pyIter_listiter hit q
 |rng n=>exact wpAny_pyIter_rangeiter x q
theorem oB.app{N2:qX}{σ:List O}(r:List O)(h:oB N2 σ):oB N2 (σ++r):=by
 cases N2 with
 |lst i xs=>obtain⟨y,e⟩:=h;exact⟨y,jF _ e⟩
 |rng n=>exact h
nonrec theorem Bw{c:Cx}{R:Result->Shared->Prop}{A:Around}{elt target iter:Expr}{scope:Scope}{pos:Pos}{it B':Value}{env:Env}{s:Shared}(ge:Nat->Shared->Prop)(turn:∀n s,ge n s->wpAny c.M A (pyNext it) (λr s₁=>match r with
   |none=>R (.ok .next) s₁
   |some v=>wpAny c.M A (letOwnedTupleGo target it v) (λI s₀=>wpAny c.M A (assign target env v) (λI s₂=>wpAny c.M A (eval elt env) (λx s₃=>
     wpAny c.M A (call (.builtin "list.append") [B',x]) (λI s₄=>∃m,m<n/\ge m s₄) (notedBy c.M A env λe s'=>R (.error e) s') s₃)
     (notedBy c.M A env λe s'=>R (.error e) s') s₂) (notedBy c.M A env λe s'=>R (.error e) s') s₀) (notedBy c.M A env λe s'=>R (.error e) s') s₁) (notedBy c.M A env λe s'=>R (.error e) s') s) (n:Nat) (h:ge n s):codeAny c.M A (.compLoop (.ListComp elt [⟨target,iter,[],0⟩] scope pos) 0 it B' env) R s:=by
 refine codeAny_loop rfl ge (λn s hI=>?_) n h;show wpAny _ _ ((compTurn (.ListComp elt [⟨target,iter,[],0⟩] scope pos) 0 it B' env).onRaise (λx=>do noteFrame x env;theTreesLotGoes x)) _ _ s;refine wpAny_noted ?_;rw[compTurn_list1];refine aa (ba (aa (aK (turn n s hI) (λr s₁ h₁=>?_) λI I h'=>h')));cases r with
 |none=>exact aE h₁
 |some v=>
  refine aa (aK h₁ (λI s₀ h₀=>?_) λI I h'=>h');exact aa (aK h₀ (λI s₂ h₂=>aa (aa (aK h₂ (λx s₃ h₃=>aa (aK h₃ (λI s₄ h₄=>aE (aE ⟨rfl,h₄⟩)) λI I h'=>h')) λI I h'=>h'))) λI I h'=>h')
nonrec theorem uv{c:Cx}{elt target iter:Expr}{scope:Scope}{cl:List (Str×Addr)}{pos:Pos}{env:Env}{A:Around}{E:Value->Shared->Prop}{s₀ s₂:Shared}{ge:Addr}{ρ9 ρ:List Addr}{σ0 σ:List O}{RR:Value->Addr->Result->Shared->Prop}(X:c.Ok){N2:qX}(hh:A.handled=none)(hlet:∀vv v Ia j ρ' (s:Shared) (Q:Unit->Shared->Prop) E',N2.at j=some vv->dH ρ' s.heap vv v->jI N2 Ia (j+1) ρ' s.heap->Q Unit.unit s->wpAny c.M A (letOwnedTupleGo target (.ref Ia) v) Q E' s)(hcell:∀y∈scope.names,y.2≠ .cell)(hkind:scope.kind= .function)(R0:c.R ρ9 σ0 s₀.heap)(rb:c.Rs ρ9 σ0 s₀ ρ σ s₂)(hI:jI N2 ge 0 ρ s₂.heap)(nI:ge∉dA ρ σ)(f0:s₀.heap.get? ge=none\/ge∈dA ρ9 σ0)(J:Nat->List O->List V->Prop)(h0:J 0 σ [])(hJ:∀j τ vs,J j τ vs->vs.length<=1000/\oB N2 τ)(turn:∀j τ vs v C (s:Shared) ρ' y E',J j τ vs->N2.at j=some v->τ.length=σ.length->c.Rs ρ9 σ0 s₀ ρ' (τ++[.list true vs,.frame []]) s->nth ρ' (σ.length+1)=some C->dH ρ' s.heap v y->
   wpAny c.M A (assign target (compEnvC scope cl C env) y) (λI s1=>wpAny c.M A (eval elt (compEnvC scope cl C env)) (λz s3=>∃ρ3 τ' w fr,c.Rs ρ' (τ++[.list true vs,.frame []]) s ρ3 (τ'++[.list true vs,.frame fr]) s3/\τ'.length=σ.length/\dH ρ3 s3.heap w z/\J (j+1) τ' (vs++[w])) E' s1) E' s) (hRR:∀ρ' s' τ vs D C,J N2.len τ vs->τ.length=σ.length->c.Rs ρ9 σ0 s₀ ρ' (τ++[.list true vs,.frame []]) s'->nth ρ' σ.length=some D->nth ρ' (σ.length+1)=some C->RR (.ref D) C (.ok .next) s'):wpAny c.M A (newList []) (λB' s₃=>wpAny c.M A (newFunctionEnv scope env.globals cl [] env.qual none .none (some env)) (λcenv s₄=>
   codeAny c.M A (.compStart (.ListComp elt [⟨target,iter,[],0⟩] scope pos) 0 (.ref ge) B' {cenv with scope:=relabel scope env}) (RR B' cenv.locals) s₄) E s₃) E s₂:=by
 have R:=rb.rel;refine wpAny_newObj_type (wpAny_newFunctionEnv hcell (by intro y hy;simp at hy) (λh₁ hns1 hsb1=>?_) hkind);dsimp only at hns1 hsb1 ⊢;generalize hH2:s₂.heap.push {cls:=.type "list",dict:=none,data:=.seq ([]:List Value).toArray}=H2 at hns1 hsb1 ⊢;have fD:s₂.heap.get? s₂.heap.objs.size=none:=fA s₂;have kD:∀b o,s₂.heap.get? b=some o->H2.get? b=some o:=λb o e=>by rw[<-hH2];exact ae _ e
 have gD:H2.get? s₂.heap.objs.size=some (fk [] 0):=by rw[<-hH2];exact aB _ rfl
 have fC:H2.get? H2.objs.size=none:=fA {s₂ with heap:=H2};have kC:∀b o,H2.get? b=some o->h₁.get? b=some o:=λb o e=>hsb1.extBut b o (bG (ay e)) (ae _ e);have r1:c.Rs ρ σ s₂ (ρ++[s₂.heap.objs.size]) (σ++[.list true []]) {s₂ with heap:=H2}:=
  eR.pushC (o:=.list true []) R kD (λx m=>by cases aj.mp m;exact fD) ⟨[],0,gD,rfl⟩ rfl rfl (by rw[<-hH2,bB];exact au _)
 have r2:c.Rs (ρ++[s₂.heap.objs.size]) (σ++[.list true []]) {s₂ with heap:=H2} (ρ++[s₂.heap.objs.size]++[H2.objs.size]) (σ++[.list true []]++[.frame []]) {s₂ with heap:=h₁,toks:=s₂.toks+([]:List (Str×Value)).length}:=
  eR.pushC (o:=.frame []) r1.rel kC (λx m=>by cases aj.mp m;exact fC) ⟨_,hns1,λn v e=>by cases e⟩ rfl rfl (by
   obtain⟨o,_,_,e,_⟩:=hns1;exact aZ (ay e))
 have r12:c.Rs ρ σ s₂ (ρ++[s₂.heap.objs.size,H2.objs.size]) (σ++[.list true [],.frame []]) {s₂ with heap:=h₁,toks:=s₂.toks+([]:List (Str×Value)).length}:=by
  have:=r1.trans r2
  rwa [aw,aw] at this
 have x0:=hI.res (c:=c) r12 nI;have nD:nth (ρ++[s₂.heap.objs.size,H2.objs.size]) σ.length=some s₂.heap.objs.size:=by rw[<-R.len];exact wv _ _
 have nC:nth (ρ++[s₂.heap.objs.size,H2.objs.size]) (σ.length+1)=some H2.objs.size:=by rw[<-R.len];exact mw _ _
 have loop:∀s₃:Shared,s₃={s₂ with heap:=h₁,toks:=s₂.toks+([]:List (Str×Value)).length}->
   codeAny c.M A (.compLoop (.ListComp elt [⟨target,iter,[],0⟩] scope pos) 0 (.ref ge) (.ref s₂.heap.objs.size) (compEnvC scope cl H2.objs.size env)) (RR (.ref s₂.heap.objs.size) H2.objs.size) s₃:=by
  rintro s₃ rfl;refine Bw (c:=c) (λm s'=>∃j ρ' τ vs,m=N2.len - j/\j<=N2.len/\J j τ vs/\τ.length=σ.length/\c.Rs ρ9 σ0 s₀ ρ' (τ++[.list true vs,.frame []]) s'/\jI N2 ge j ρ' s'.heap/\ge∉dA ρ' (τ++[.list true vs,.frame []])/\
   nth ρ' σ.length=some s₂.heap.objs.size/\nth ρ' (σ.length+1)=some H2.objs.size) (λm s' hm=>?_) N2.len ⟨0,_,σ,[],by omega,by omega,h0,rfl,rb.trans r12,x0.1,x0.2,nD,nC⟩
  obtain⟨j,ρ1,τ,vs,em,hj,jj,hl,r,x1,n1,eD,eC⟩:=hm;rw[em];obtain⟨oI,hoI,hnI⟩:=x1.obj;obtain⟨hz,hs⟩:=hJ _ _ _ jj;cases hv:N2.at j with
  |none=>
   have hj':=vR hv hj;refine yh hh r.rel (hs.app _) x1 hv hj λh' kp=>?_;exact hRR ρ1 _ τ vs _ _ (hj'▸jj) hl (r.off R0 hoI hnI n1 f0 kp rfl rfl) eD eC
  |some v=>
   have hlt:=sw hv;refine vJ r.rel (hs.app _) x1 hv λy h' tk vy x2 kp=>?_;have r2:c.Rs ρ9 σ0 s₀ ρ1 (τ++[.list true vs,.frame []]) {s' with heap:=h',toks:=tk}:=r.off R0 hoI hnI n1 f0 kp rfl rfl;refine hlet v y ge j ρ1 _ _ _ hv vy x2 ?_;refine aK (turn j τ vs v H2.objs.size _ ρ1 y _ jj hv hl r2 eC vy) (λI s1 k1=>aK k1 (λz s3 k3=>?_) λI I e=>e) λI I e=>e;obtain⟨ρ3,τ',w,fr,r3,hl',vw,jj'⟩:=k3;have lD:nth (τ'++[.list true vs,.frame fr]) σ.length=some (.list true vs):=by rw[<-hl'];exact wv _ _
   have lC:nth (τ'++[.list true vs,.frame fr]) (σ.length+1)=some (.frame fr):=by rw[<-hl'];exact mw _ _
   have eD3:=r3.grow _ _ eD;have eC3:=r3.grow _ _ eC;obtain⟨z',n,ho,zv⟩:=r3.rel.at eD3 lD;have big:=dv;refine qY ho (by rw[zv.length];omega) λh4 n4 sb e4=>?_;have tk4:=r3.rel.tkBut eD3 lD rfl sb;have r4:=eR.setL r3.rel eD3 lD (o':=.list true (vs++[w])) rfl rfl sb ⟨z'++[z],n4,e4,(zv.up (.refl _) tk4).app (.cons (vw.up (.refl _) tk4) .nil)⟩;have e5:setN (τ'++[.list true vs,.frame fr]) σ.length (.list true (vs++[w]))=τ'++[.list true (vs++[w]),.frame fr]:=by rw[<-hl'];exact uD _ _ _ _
   rw[e5] at r4;have lC4:nth (τ'++[.list true (vs++[w]),.frame fr]) (σ.length+1)=some (.frame fr):=by rw[<-hl'];exact mw _ _
   obtain⟨mp,hmp,_⟩:=r4.rel.at eC3 lC4;have r5:=eR.setC (s':={s3 with heap:=h4}) r4.rel eC3 lC4 (o':=.frame []) rfl (λb x e I=>e) ⟨mp,hmp,λI I e=>by cases e⟩ rfl rfl (ao _);rw[<-hl',qf] at r5;have r6:c.Rs ρ9 σ0 s₀ ρ3 (τ'++[.list true (vs++[w]),.frame []]) {s3 with heap:=h4}:=((r2.trans r3).trans r4).trans r5;have r26:c.Rs ρ1 (τ++[.list true vs,.frame []]) {s' with heap:=h',toks:=tk} ρ3 (τ'++[.list true (vs++[w]),.frame []]) {s3 with heap:=h4}:=(r3.trans r4).trans r5;have x6:=x2.res (c:=c) r26 n1;exact⟨N2.len - (j+1),cL hlt (aX j),j+1,ρ3,τ',vs++[w],rfl,hlt,jj',hl',r6,x6.1,x6.2,eD3,eC3⟩
 exact codeAny_compStart_list (loop _ rfl) (F4 x0.1 (loop _ rfl))
theorem eR.off2{nm:Nat->Str}{P:PW}{h₀:Heap}{ρ9 ρ:List Addr}{σ0 σ:List O}{s₀ s s':Shared}{ge:Addr}(r:eR nm P h₀ ρ9 σ0 s₀ ρ σ s)(R2:kB nm P h₀ ρ9 σ0 s₀.heap)(nt:∀z',¬IsTup s.heap ge z')(hI:ge∉dA ρ σ)(h0:s₀.heap.get? ge=none\/ge∈dA ρ9 σ0)
  (k:∀b o,b≠ge->s.heap.get? b=some o->s'.heap.get? b=some o) (hg:s'.gens=s.gens) (ho:s'.os=s.os):eR nm P h₀ ρ9 σ0 s₀ ρ σ s':=by
 have hb:h₀.get? ge=none:=by
  cases q:h₀.get? ge with
  |none=>rfl
  |some x=>
   rcases h0 with h0 | h0
   .have:=R2.old ge x q;rw[h0] at this;cases this
   .have:=R2.new ge h0;rw[q] at this;cases this
 have tk:fV s.heap s'.heap:=λa z' t=>by
  obtain⟨o,ho,hc,n,hd⟩:=t;exact⟨o,k a o (λz=>nt z' (z▸⟨o,ho,hc,n,hd⟩)) ho,hc,n,hd⟩
 refine⟨r.grow,⟨r.rel.len,λi a q e1 e2=>(r.rel.rep i a q e1 e2).up (.refl _) tk λb m x ex=>k b x (λz=>hI (z▸dC.mpr ⟨i,a,q,e1,e2,m⟩)) ex,r.rel.apart,r.rel.new,λb x ex=>k b x (λz=>?_) (r.rel.old b x ex)⟩,λb x ex m=>k b x (λz=>?_) (r.keep b x ex m),r.fresh,hg.trans r.gens,ho.trans r.os,r.frm⟩
 .subst z;rw[hb] at ex;cases ex
 .subst z
  rcases h0 with h0 | h0
  .rw[h0] at ex;cases ex
  .exact m h0
theorem qP{c:Cx}{ρ9 ρ':List Addr}{σ0 τ:List O}{s₀ s':Shared}{vs:List V}{C D:Addr}{g:Nat->Option Nat}(R0:c.R ρ9 σ0 s₀.heap)(hlen:σ0.length<=τ.length)(r:c.Rs ρ9 σ0 s₀ ρ' (τ++[.list true vs,.frame []]) s')(eD:nth ρ' τ.length=some D)(eC:nth ρ' (τ.length+1)=some C)
  (T:dg c (τ.length+1) g (τ++[.list true vs,.frame []]) (·=τ++[.list true vs])):(∃m,s'.heap.Ns C m)/\∀h',Heap.SameBut C s'.heap h'->∃ρ2,c.Rs ρ9 σ0 s₀ ρ2 (τ++[.list true vs]) {s' with heap:=h'}/\nth ρ2 τ.length=some D:=by
 have lC:nth (τ++[.list true vs,.frame []]) (τ.length+1)=some (.frame []):=mw _ _;obtain⟨mp,hmp,_⟩:=r.rel.at eC lC;refine⟨⟨mp,hmp⟩,λh' sb=>?_⟩;obtain⟨ρ2,σ2,rfl,r2,_,keep,ft,_⟩:=eR.tell (c:=c) r T (by omega) R0.len;have mC:C∈dA ρ' (τ++[.list true vs,.frame []]):=dC.mpr ⟨_,_,_,eC,lC,.head _⟩;refine⟨ρ2,eR.off2 r2 R0 (λz'=>r.rel.notTup mC z') (λm=>?_) (r.fresh C mC).symm (λb o hb e=>by rw[sb.2 b hb];exact e) rfl rfl,keep _ _ (aX _) eD⟩;obtain⟨i,a,o,e1,e2,m⟩:=dC.mp m;have hi:i<τ.length+1:=by have:=fO e2;simpa using this
 have e3:nth (τ++[.list true vs,.frame []]) i=some o:=by
  have:τ++[O.list true vs,.frame []]=(τ++[.list true vs])++[.frame []]:=by simp
  rw[this];exact jF _ e2
 have hi2:i<ρ'.length:=by rw[r.rel.len];exact fO e3
 have e4:nth ρ' i=some a:=by
  obtain⟨a',e5⟩:=jK r.rel.len.symm e3;have:=keep i a' hi e5;rw[e1] at this;cases this;exact e5
 exact r.rel.apart i (τ.length+1) a C o (.frame []) e4 e3 eC lC (by omega) C m (.head _)
structure zX(c:Cx)(elt target:Expr)(scope:Scope)(cl:List (Str×Addr))(env:Env)(A:Around)(s₀ s₂:Shared)(ge:Addr)(N2:qX)(ρ9 ρ:List Addr)(σ0 σ:List O)(J:Nat->List O->List V->Prop)(g:Nat->Option Nat):Prop where
 R0:c.R ρ9 σ0 s₀.heap
 rb:c.Rs ρ9 σ0 s₀ ρ σ s₂
 hI:jI N2 ge 0 ρ s₂.heap
 nI:ge∉dA ρ σ
 f0:s₀.heap.get? ge=none\/ge∈dA ρ9 σ0
 hlet:∀vv v Ia j ρ' (s:Shared) (Q:Unit->Shared->Prop) E',N2.at j=some vv->dH ρ' s.heap vv v->jI N2 Ia (j+1) ρ' s.heap->Q Unit.unit s->wpAny c.M A (letOwnedTupleGo target (.ref Ia) v) Q E' s
 h0:J 0 σ []
 hJ:∀j τ vs,J j τ vs->vs.length<=1000/\oB N2 τ
 turn:∀j τ vs v C (s:Shared) ρ' y E',J j τ vs->N2.at j=some v->τ.length=σ.length->c.Rs ρ9 σ0 s₀ ρ' (τ++[.list true vs,.frame []]) s->nth ρ' (σ.length+1)=some C->dH ρ' s.heap v y->
   wpAny c.M A (assign target (compEnvC scope cl C env) y) (λI s1=>wpAny c.M A (eval elt (compEnvC scope cl C env)) (λz s3=>∃ρ3 τ' w fr,c.Rs ρ' (τ++[.list true vs,.frame []]) s ρ3 (τ'++[.list true vs,.frame fr]) s3/\τ'.length=σ.length/\dH ρ3 s3.heap w z/\J (j+1) τ' (vs++[w])) E' s1) E' s
 le:σ0.length<=σ.length
 tell:∀τ vs,J N2.len τ vs->τ.length=σ.length->dg c (τ.length+1) g (τ++[.list true vs,.frame []]) (·=τ++[.list true vs])
nonrec theorem qB{c:Cx}{elt target iter:Expr}{scope:Scope}{cl:List (Str×Addr)}{pos:Pos}{env:Env}{A:Around}{E:Value->Shared->Prop}{s:Shared}{Q:Value->Shared->Prop}(X:c.Ok)(hh:A.handled=none)(hclos:closureFor scope env=pure cl)(hcell:∀y∈scope.names,y.2≠ .cell)(hkind:scope.kind= .function)(hnames:∀y∈scope.names,y.2= .local->scope.names.lookup y.1=some .local)(hs:∀x,foldedSetIterable iter env x=pure x)(h:wpAny c.M A (eval iter env) (λxv s₁=>wpAny c.M A (pyIter xv) (λit s₂=>∃ge s₀ N2 ρ9 ρ σ0 σ J g,it= .ref ge/\zX c elt target scope cl env A s₀ s₂ ge N2 ρ9 ρ σ0 σ J g/\
   ∀ρ' s' τ vs D,J N2.len τ vs->τ.length=σ.length->c.Rs ρ9 σ0 s₀ ρ' (τ++[.list true vs]) s'->nth ρ' σ.length=some D->Q (.ref D) s') E s₁) E s):wpAny c.M A (eval (.ListComp elt [⟨target,iter,[],0⟩] scope pos) env) Q E s:=by
 rw[eval_ListComp];refine wpAny_comprehension_free (use:=none) rfl hs hclos hkind hnames (aK h (λxv s₁ h₁=>aK h₁ (λit s₂ h₂=>?_) λI I e=>e) λI I e=>e);obtain⟨ge,s₀,N2,ρ9,ρ,σ0,σ,J,g,rfl,K,q⟩:=h₂;refine uv X (RR:=λB' C=>compPost c.M A E none Q B' C) hh K.hlet hcell hkind K.R0 K.rb K.hI K.nI K.f0 J K.h0 K.hJ K.turn λρ' s' τ vs D C j hl r eD eC=>?_;obtain⟨m,b⟩:=qP K.R0 (by have:=K.le;omega) r (by rw[hl];exact eD) (by rw[hl];exact eC) (K.tell τ vs j hl);refine⟨m.choose,m.choose_spec,λh' sb=>?_⟩;obtain⟨ρ2,r2,e2⟩:=b h' sb;exact q ρ2 _ τ vs D j hl r2 (by rw[<-hl];exact e2)
nonrec theorem wp{c:Cx}{elt target iter:Expr}{scope:Scope}{cl:List (Str×Addr)}{pos spos py:Pos}{y:Str}{env:Env}{A:Around}{E:Value->Shared->Prop}{s:Shared}{Q:Flow->Shared->Prop}(X:c.Ok)(hh:A.handled=none)(hsw:swapsWith (.ListComp elt [⟨target,iter,[],0⟩] scope pos) (some (.Name y py)) spos.line env=pure true)(hclos:closureFor scope env=pure cl)(hcell:∀y∈scope.names,y.2≠ .cell)(hkind:scope.kind= .function)(hnames:∀y∈scope.names,y.2= .local->scope.names.lookup y.1=some .local)(hs:∀x,foldedSetIterable iter env x=pure x)(h:wpAny c.M A (eval iter env) (λxv s₁=>wpAny c.M A (pyIter xv) (λit s₂=>∃ge s₀ N2 ρ9 ρ σ0 σ J g,it= .ref ge/\zX c elt target scope cl env A s₀ s₂ ge N2 ρ9 ρ σ0 σ J g/\
   ∀ρ' s' τ vs D C,J N2.len τ vs->τ.length=σ.length->c.Rs ρ9 σ0 s₀ ρ' (τ++[.list true vs,.frame []]) s'->nth ρ' σ.length=some D->nth ρ' (σ.length+1)=some C->
    wpAny c.M A (storeName env y (.ref D)) (λI s''=>∃m,s''.heap.Ns C m/\∀h',Heap.SameBut C s''.heap h'->Q .next {s'' with heap:=h'}) E s') E s₁) E s):wpAny c.M A (exec (.Assign [.Name y py] (.ListComp elt [⟨target,iter,[],0⟩] scope pos) spos) env) Q E s:=by
 rw[exec_Assign_Name_used _ _ _ _ hsw];refine aa (ba (aa ?_));show wpAny _ A (do let _ <-comprehension (.ListComp elt [⟨target,iter,[],0⟩] scope pos) scope env _ (newList []) false (eval iter env) (some (assign (.Name y py) env))) _ _ s;refine aa (aK (wpAny_comprehension_free (use:=some (assign (.Name y py) env)) (Q:=λI s'=>Q .next s') rfl hs hclos hkind hnames
  (aK h (λxv s₁ h₁=>aK h₁ (λit s₂ h₂=>?_) λI I e=>e) λI I e=>e)) (λI s' hq=>aE (aE hq)) λI I e=>e)
 obtain⟨ge,s₀,N2,ρ9,ρ,σ0,σ,J,g,rfl,K,q⟩:=h₂;refine uv X (RR:=λB' C=>compPost c.M A E (some (assign (.Name y py) env)) (λI s'=>Q .next s') B' C) hh K.hlet hcell hkind K.R0 K.rb K.hI K.nI K.f0 J K.h0 K.hJ K.turn λρ' s' τ vs D C j hl r eD eC=>?_;exact bN (q ρ' s' τ vs D C j hl r eD eC)
def uW(mk:Bool)(nd:V)(s:Str)(an:Bool)(lim:Int)(tl:List (Nm×V)):List (Nm×V):=[(dR,.bool mk),(cU,nd),(cS,.str true s),(cT,.bool an),(dJ,.int true lim)]++tl
abbrev eG(lim st:Int):O:=.inst 576 [(gu,.obj 6),(dJ,.int true lim),(fS,.obj 7),(gK,.int true st),(eP,.obj 8)]
def iG(R F c2 c3:O)(fr:List (Nm×V))(H D L:O)(tl:List O):List O:=R::F::c2::c3:: .frame fr::H::D:: .list true []::L::tl
def L0:MS:=.ite (.loc dR) [.asg dj (.call (.glb iW) [.loc cU,.loc cS,.loc cT,.loc dt])] [.asg dj (.call (.glb kx) [.loc cU,.loc cS,.loc cT,.loc dt])]
def xj(g:Nm):ME:=.call (.glb g) [.loc cU,.loc cS,.loc cT,.loc dt]
def gN(mk:Bool):Nm:=if mk then iW else kx
abbrev LM(mk:Bool):Nat:=if mk then 538 else 587
abbrev ql(mk:Bool)(nd:V)(s:Str)(an:Bool)(lim:Int):=uW mk nd s an lim [(dt,.obj 5)]
abbrev qZ(mk:Bool)(nd:V)(s:Str)(an:Bool)(lim:Int)(v:V):=uW mk nd s an lim [(dt,.obj 5),(dj,v)]
abbrev lM(bg en:Int):V:=.tup [.int true bg,.int true en,.obj 9]
section
variable(sp:jA) (sl:jz) (r:Nat)
abbrev P0:=Pg (fe []) sp sl r
abbrev P2:=Pg (fe [538,587]) sp sl r
section
variable(R F c2 c3 H D L:O) (mk:Bool) (nd:V) (s:Str) (an:Bool) (lim st:Int) (v:V) (H1 D1 L1:O) (tl:List O)
theorem LT:Option.map qi (ju (P0 sp sl r) (ev (P0 sp sl r) 20) (lU gl 0) 4 ⟨[R,F,c2,c3,.frame (uW mk nd s an lim [])],[],[]⟩)=
  some (Fl.next,[R,F,c2,c3,.frame (uW mk nd s an lim [(dt,.obj 7)]),.dict [],.list true [],.inst 576 [(gu,.obj 5),(dJ,.int true lim),(fS,.obj 6),(gK,.int false 0),(eP,.obj 9)],.frame [(cV,.obj 7),(gu,.obj 5),(dJ,.int true lim),(fS,.obj 6)],.list true []],[]):=by
 walk_at"k"
theorem Me:Option.map Gz ((ev (P0 sp sl r) 20).t (.loc dR) 4 ⟨iG R F c2 c3 (ql mk nd s an lim) H D L tl,[],[]⟩)=some (mk,iG R F c2 c3 (ql mk nd s an lim) H D L tl,[]):=by
 walk_at"k"
theorem L2:Option.map qi (ju (P2 sp sl r) (ev (P2 sp sl r) 20) (.asg dj (xj (gN mk))) 4 ⟨iG R F c2 c3 (ql mk nd s an lim) (eG lim st) D L [],[.k v (iG R F c2 c3 (ql mk nd s an lim) H1 D1 L1 tl)],[]⟩)=
  some (.next,iG R F c2 c3 (qZ mk nd s an lim v) H1 D1 L1 tl,[sp (LM mk) [nd,.str true s,.bool an,.obj 5] (iG R F c2 c3 (ql mk nd s an lim) (eG lim st) D L []) v (iG R F c2 c3 (ql mk nd s an lim) H1 D1 L1 tl)]):=by
 cases mk<;>walk_at"k"
end
variable(rsp:uS) (rsl:uZ)
section
variable(R F c2 c3 H D L:O) (mk:Bool) (nd:V) (s:Str) (an:Bool) (lim st:Int) (H1 D1 L1:O) (bg en:Int) (N:O) (tl:List O) (M:O) (fr:List (Nm×V)) (s1:Str)
theorem Mm:Option.map zQ (rE (P0 sp sl r) (ev (P0 sp sl r) 20) (tP (P0 sp sl r) (Rg (fe [538,587]) rsp rsl) 20) (xj (gN mk)) 4 ⟨iG R F c2 c3 (ql mk nd s an lim) (eG lim st) D L [],[.r (iG R F c2 c3 (ql mk nd s an lim) H1 D1 L1 [])],[]⟩)=
  some (iG R F c2 c3 (ql mk nd s an lim) H1 D1 L1 [],[rsp (LM mk) [nd,.str true s,.bool an,.obj 5] (iG R F c2 c3 (ql mk nd s an lim) (eG lim st) D L []) (iG R F c2 c3 (ql mk nd s an lim) H1 D1 L1 [])]):=by
 cases mk<;>walk_at"k"
theorem Lb:Option.map qi (ju (P0 sp sl r) (ev (P0 sp sl r) 20) (lU gl 2) 4 ⟨iG R F c2 c3 (qZ mk nd s an lim .none) (eG lim st) D L [],[],[]⟩)=
  some (.ret (.tup [.tup [.str false jo],.obj 8]),iG R F c2 c3 (qZ mk nd s an lim .none) (eG lim st) D L [],[]):=by
 walk_at"k"
theorem Kh:Option.map qi (ju (P0 sp sl r) (ev (P0 sp sl r) 20) (lU gl 2) 4 ⟨iG R F c2 c3 (qZ mk nd s an lim (lM bg en)) (eG lim st) D L [N],[],[]⟩)=
  some (.next,iG R F c2 c3 (qZ mk nd s an lim (lM bg en)) (eG lim st) D L [N],[]):=by
 walk_at"k"
theorem Lw:Option.map qa ((ev (P0 sp sl r) 20).e (.item (.loc dj) (.cst (.int 0))) 4 ⟨iG R F c2 c3 (qZ mk nd s an lim (lM bg en)) H D L tl,[],[]⟩)=some (.int true bg,iG R F c2 c3 (qZ mk nd s an lim (lM bg en)) H D L tl,[]):=by
 walk_at"k"
theorem Lj:Option.map qa ((ev (P0 sp sl r) 20).e (.item (.loc dj) (.cst (.int 1))) 4 ⟨iG R F c2 c3 (qZ mk nd s an lim (lM bg en)) H D L tl,[],[]⟩)=some (.int true en,iG R F c2 c3 (qZ mk nd s an lim (lM bg en)) H D L tl,[]):=by
 walk_at"k"
theorem Ly:Option.map qa ((ev (P0 sp sl r) 20).e (.item (.loc dj) (.cst (.int 2))) 4 ⟨iG R F c2 c3 (qZ mk nd s an lim (lM bg en)) H D L tl,[],[]⟩)=some (.obj 9,iG R F c2 c3 (qZ mk nd s an lim (lM bg en)) H D L tl,[]):=by
 walk_at"k"
theorem Kg:Option.map qa ((ev (P0 sp sl r) 20).e (.cst (.str lX)) 4 ⟨iG R F c2 c3 (qZ mk nd s an lim (lM bg en)) H D L tl,[],[]⟩)=some (.str false lX,iG R F c2 c3 (qZ mk nd s an lim (lM bg en)) H D L tl,[]):=by
 walk_at"k"
theorem KP:Option.map qa ((ev (P0 sp sl r) 20).e (.attr (.loc dt) eP) 4 ⟨iG R F c2 c3 (qZ mk nd s an lim (lM bg en)) (eG lim st) D L tl,[],[]⟩)=some (.obj 8,iG R F c2 c3 (qZ mk nd s an lim (lM bg en)) (eG lim st) D L tl,[]):=by
 walk_at"k"
theorem Le:Option.map qa ((ev (P0 sp sl r) 20).e (.tup [.attr (.loc eH) iS,.loc ia]) 11 ⟨iG cY F c2 c3 fr H D L [N,M,.frame [(eH,.obj 0),(ia,.str true s1)]],[],[]⟩)=
  some (.tup [.str false sK,.str true s1],iG cY F c2 c3 fr H D L [N,M,.frame [(eH,.obj 0),(ia,.str true s1)]],[]):=by
 walk_at"k"
end
end
abbrev AE:Sk Stmt:=.ret (.tup (.l [.tup (.l [.cst (.str hY),.attr (.loc lA) dX,.attr (.loc dt) gK]),.attr (.loc dt) eP]))
section
variable{b:Bs}
section
variable{σ:List O} {s:Shared} {ρ:List Addr} {Q:Value->Shared->Prop}
theorem fY(G:dI b){fi:Nat}{n:Nm}{v:V}{m:List (Nm×V)}(hf:nth σ fi=some (.frame m))(hv:gP n m=some v){A:Around}{env:Env}{pos:Pos}{E:Value->Shared->Prop}(en:dE env fi ρ)
  (hl:env.scope.names.lookup (nmT n)=some .local) (hd:(nmT n==("__debug__":Str))=false) (R:(C b).R ρ σ s.heap) (q:∀y,dH ρ s.heap v y->Q y s):wpAny (C b).M A (eval (.Name (nmT n) pos) env) Q E s:=by
 obtain⟨mp,hm,z⟩:=R.at en.loc hf;obtain⟨x,e1,e2⟩:=z n v hv;exact wpAny_Name (cj en.kind hl hm e1 (q x e2)) hd
theorem DG(G:dI b){i n:Nat}{v:V}{Cc:Addr}{fs:List (Nm×V)}(hi:nth σ i=some (.inst Cc fs))(hf:oa.fld Cc n)(hv:gP n fs=some v){A:Around}{x:Value}{ex:Bool}{E:Value->Shared->Prop}(R:(C b).R ρ σ s.heap)(vx:dH ρ s.heap (.obj i) x)
  (q:∀s' z,(C b).Rs ρ σ s ρ σ s'->dH ρ s'.heap v z->Q z s'):wpAny (C b).M A (getAttr x (nmT n) ex) Q E s:=
 (u8 (c:=C b) G.X (st:=⟨σ,[],[]⟩) (C':=⟨σ,[],[]⟩) (v:=v) (n:=n) (o:=.obj i) (by
  show Lp (nth σ i) (λC fs=>oi (oa.fld C n) (on (gP n fs) λv=>some (v,(⟨σ,[],[]⟩:St))) none)=_;rw[hi];show oi (oa.fld Cc n) (on (gP n fs) _) none=_;rw[hf];show on (gP n fs) _=_;rw[hv];rfl) (λI m=>by cases m)).2.2 A s ρ x ex Q E R (λI I e=>by cases e) vx q
theorem JC{vs:List V}{ys:List Value}(R:(C b).R ρ σ s.heap)(v:dy ρ s.heap vs ys)(hz:vs.length<=1000)
  (q:∀s' y,(C b).Rs ρ σ s ρ σ s'->dH ρ s'.heap (.tup vs) y->Q y s'):ys.length<=sizeLine/\Q (.ref s.heap.objs.size) {s with heap:=s.heap.push {cls:=.type "tuple",data:=.seq ys.toArray}}:=by
 have big:=dv;refine⟨by rw[v.length];omega,q _ _ (.more0 R (λb o e=>ae _ e) rfl rfl) ⟨_,ys,rfl,⟨_,aB _ rfl,rfl,0,rfl⟩,v.up (.refl _) (.of_keeps λb o e=>ae _ e)⟩⟩
theorem oy{A:Around}{env:Env}{elts:List Expr}{x1:Nat}{pos:Pos}{E:Value->Shared->Prop}
  (h:wpAny (C b).M A (spliced (backTo pos (starEach elts env))) (λys s'=>∃ρ σ vs,(C b).R ρ σ s'.heap/\dy ρ s'.heap vs ys/\vs.length<=1000/\∀s'' y,(C b).Rs ρ σ s' ρ σ s''->dH ρ s''.heap (.tup vs) y->Q y s'') E s):wpAny (C b).M A (eval (.Tuple elts x1 pos) env) Q E s:=
 cN (aK h (λys s' z=>by obtain⟨ρ,σ,vs,R,v,hz,q⟩:=z;exact JC R v hz q) λI I z=>z)
theorem d9.exc{c:Cx}{l:List Env}{ρ':List Addr}{σ':List O}{s':Shared}{a:Addr}(x:d9 c (J2 c) l ρ σ s σ' ρ' a s'):
  ∃vs d o mA tk,s'.heap.get? a=some ⟨.ref 120,some d,.fields vs,o⟩/\d≠a/\(∀b∈l.filterMap (·.frame),b≠d)/\s'.heap.Ns d mA/\mA (c.nm dX)=some (.int 22 tk)/\a∉dA ρ' σ':=by
 obtain⟨sm,fs,r,F,⟨t,d,o,mA,tk,e1,e2,e3,e4,e5⟩,h4,h5,h6,h7,_⟩:=x;obtain⟨oe,vs,vs',z1,z2,z3,_⟩:=F.exc;rw[e1] at z1;cases z1;obtain⟨od,es,ep,w1,w2⟩:=e4;exact⟨vs',d,o,mA,tk,z3,e2,λb m z=>e3 (z▸h4 b m),⟨od,es,ep,F.same d od w1 e3 e2,w2⟩,e5,h7⟩
theorem jm(R F c2 c3:O)(fr:List (Nm×V))(H D L:O)(tl:List O):nth (iG R F c2 c3 fr H D L tl) 4=some (.frame fr):=rfl
end
end
namespace gE
def zS(b:Bs)(A:Around)(env:Env)(l:List Env)(ρ ρ':List Addr)(σ:List O)(s:Shared)(R F c2 c3 D L:O)(mk an:Bool)(nd:V)(sb:Str)(lim st:Int)(pt:Pos)(ret:Stmt)(pos:Pos)(Q:Flow->Shared->Prop)(E:Value->Shared->Prop):Prop:=∀(G:dI b),∀(XFc:XF (C b)),∀{s':Shared},∀{a:Addr},∀(x:d9 (C b) (J2 (C b)) (env::l) ρ σ s (iG R F c2 c3 (ql mk nd sb an lim) (eG lim st) D L []) ρ' a s'),∀(R0:(C b).R ρ σ s.heap),∀(hl:∀L∈(env::l).filterMap (·.frame),L∈dA ρ σ),∀(en:dE env 4 ρ'),∀(ef:env.frame=some env.locals),∀(ct:env.scope.names.lookup (nmT gF)=some .globalImplicit/\(nmT gF==("__debug__":Str))=false),∀(cr:fE env.scope AE ret),∀(q:∀ρ3 s3 y,(C b).Rs ρ σ s ρ3 (iG R F c2 c3 [] (eG lim st) D L []) s3->dH ρ3 s3.heap (.tup [.tup [.str true hY,.int true 22,.int true st],.obj 8]) y->Q (.ret y) s3),wpAny (C b).M A (handleBy (.ref a) env [.ExceptHandler (some (.Name (nmT gF) pt)) (some (nmT lA)) [bE AE ret] pos]) Q E s'
def zt:Bs×Around×Env×List Env×List Addr×List Addr×List O×Shared×O×O×O×O×O×O×Bool×Bool×V×Str×Int×Int×Pos×Stmt×Pos×(Flow->Shared->Prop)×(Value->Shared->Prop):=E1 (λp=>zS p.1 p.2.1 p.2.2.1 p.2.2.2.1 p.2.2.2.2.1 p.2.2.2.2.2.1 p.2.2.2.2.2.2.1 p.2.2.2.2.2.2.2.1 p.2.2.2.2.2.2.2.2.1 p.2.2.2.2.2.2.2.2.2.1 p.2.2.2.2.2.2.2.2.2.2.1 p.2.2.2.2.2.2.2.2.2.2.2.1 p.2.2.2.2.2.2.2.2.2.2.2.2.1 p.2.2.2.2.2.2.2.2.2.2.2.2.2.1 p.2.2.2.2.2.2.2.2.2.2.2.2.2.2.1 p.2.2.2.2.2.2.2.2.2.2.2.2.2.2.2.1 p.2.2.2.2.2.2.2.2.2.2.2.2.2.2.2.2.1 p.2.2.2.2.2.2.2.2.2.2.2.2.2.2.2.2.2.1 p.2.2.2.2.2.2.2.2.2.2.2.2.2.2.2.2.2.2.1 p.2.2.2.2.2.2.2.2.2.2.2.2.2.2.2.2.2.2.2.1 p.2.2.2.2.2.2.2.2.2.2.2.2.2.2.2.2.2.2.2.2.1 p.2.2.2.2.2.2.2.2.2.2.2.2.2.2.2.2.2.2.2.2.2.1 p.2.2.2.2.2.2.2.2.2.2.2.2.2.2.2.2.2.2.2.2.2.2.1 p.2.2.2.2.2.2.2.2.2.2.2.2.2.2.2.2.2.2.2.2.2.2.2.1 p.2.2.2.2.2.2.2.2.2.2.2.2.2.2.2.2.2.2.2.2.2.2.2.2) (by(constructor;repeat' first | exact bs0 | exact default | exact{} | exact[] | exact .none | exact .any | exact λI=>True | exact λI I=>True | exact λI I I=>True | apply Prod.mk))
def b:=zt.1
def A:=zt.2.1
def env:=zt.2.2.1
def l:=zt.2.2.2.1
def ρ:=zt.2.2.2.2.1
def ρ':=zt.2.2.2.2.2.1
def σ:=zt.2.2.2.2.2.2.1
def s:=zt.2.2.2.2.2.2.2.1
def R:=zt.2.2.2.2.2.2.2.2.1
def F:=zt.2.2.2.2.2.2.2.2.2.1
def c2:=zt.2.2.2.2.2.2.2.2.2.2.1
def c3:=zt.2.2.2.2.2.2.2.2.2.2.2.1
def D:=zt.2.2.2.2.2.2.2.2.2.2.2.2.1
def L:=zt.2.2.2.2.2.2.2.2.2.2.2.2.2.1
def mk:=zt.2.2.2.2.2.2.2.2.2.2.2.2.2.2.1
def an:=zt.2.2.2.2.2.2.2.2.2.2.2.2.2.2.2.1
def nd:=zt.2.2.2.2.2.2.2.2.2.2.2.2.2.2.2.2.1
def sb:=zt.2.2.2.2.2.2.2.2.2.2.2.2.2.2.2.2.2.1
def lim:=zt.2.2.2.2.2.2.2.2.2.2.2.2.2.2.2.2.2.2.1
def st:=zt.2.2.2.2.2.2.2.2.2.2.2.2.2.2.2.2.2.2.2.1
def pt:=zt.2.2.2.2.2.2.2.2.2.2.2.2.2.2.2.2.2.2.2.2.1
def ret:=zt.2.2.2.2.2.2.2.2.2.2.2.2.2.2.2.2.2.2.2.2.2.1
def pos:=zt.2.2.2.2.2.2.2.2.2.2.2.2.2.2.2.2.2.2.2.2.2.2.1
def Q:=zt.2.2.2.2.2.2.2.2.2.2.2.2.2.2.2.2.2.2.2.2.2.2.2.1
def E:=zt.2.2.2.2.2.2.2.2.2.2.2.2.2.2.2.2.2.2.2.2.2.2.2.2
theorem zP:zS b A env l ρ ρ' σ s R F c2 c3 D L mk an nd sb lim st pt ret pos Q E:=by
 intro G XFc s' a x R0 hl en ef ct cr q;obtain⟨⟨_,⟨lw,dw⟩,⟨lh,dh⟩,_⟩,_⟩:=cr;obtain⟨xc,hC⟩:=XFc.cls;have r1:=x.rs R0 hl;have inS:(C b).K.In s'.heap:=G.X.In r1.rel;refine wpAny_handleBy_cons (codeAny_handlers_test ?_) (by intro z;cases z);refine g8 (c:=C b) (st:=⟨_,[],[]⟩) G.X (n:=gF) (v:=.val (.ref 120)) rfl en ct.1 ct.2 r1.rel λy vy=>?_;obtain⟨rfl,_⟩:=vy;obtain⟨vs1,d1,o1,mA1,tk1,g1,_⟩:=x.exc;obtain⟨h',gn,dr,tk,os⟩:=s';refine wpAny_excMatches_sub_self (inS _ _ hC) g1 rfl (by rfl) ?_;rw[if_pos rfl];refine codeAny_handlers_suite_as (x.flight λs2 x2=>?_);have r2:=x2.rs R0 hl;obtain⟨vs,d,o,mA,tk2,ga,nda,ndf,nsd,hv,nfa⟩:=x2.exc;have eL:env.locals∈(env::l).filterMap (·.frame):=by rw[a8,ef];exact .head _
 have ndL:env.locals≠d:=ndf _ eL;have mL:env.locals∈dA ρ' (iG R F c2 c3 (ql mk nd sb an lim) (eG lim st) D L []):=dC.mpr ⟨4,_,_,en.loc,rfl,.head _⟩;have naL:a≠env.locals:=λz=>nfa (z▸mL);obtain⟨mp,hm,zz⟩:=r2.rel.at en.loc (jm R F c2 c3 _ _ D L []);refine wpAny_storeName_local lw hm (λh3 hm3 sb3=>?_) en.notCls;have tk3:=r2.rel.tkBut en.loc (jm R F c2 c3 _ _ D L []) rfl sb3;have r3:(C b).Rs ρ' (iG R F c2 c3 (ql mk nd sb an lim) (eG lim st) D L []) s2 ρ' (iG R F c2 c3 (ql mk nd sb an lim) (eG lim st) D L []) {s2 with heap:=h3}:=
  eR.setC r2.rel en.loc (jm R F c2 c3 _ _ D L []) (o':=.frame (ql mk nd sb an lim)) rfl (λb x e m=>by rw[sb3.2 b (λq=>m (by rw[q];exact .head _))];exact e) ⟨_,hm3,λn v e=>by
   obtain⟨y,y1,y2⟩:=zz n v e;refine⟨y,?_,y2.up (.refl _) tk3⟩;rw[if_neg (λz=>?_)]
   .exact y1
   .have:=G.X.inj n lA z
    subst this;rw[show gP lA (ql mk nd sb an lim)=none from rfl] at e;cases e⟩ rfl rfl (aY sb3.1.symm)
 have ga3:h3.get? a=some ⟨.ref 120,some d,.fields vs,o⟩:=by rw[sb3.2 a naL];exact ga
 have nsd3:h3.Ns d mA:=nsd.at' λo e=>by rw[sb3.2 d ndL.symm];exact e
 refine ak (wpAny_Return_some (oy (aF (oy (aF (cH (aF ?_)))))));show wpAny (C b).M _ (eval (.Attribute (.Name (nmT lA) _) (nmT dX) _) env) _ _ _;rw[arm_eval_Attribute,hK rfl];refine aa (wpAny_Name (cj (v:=.ref a) en.kind lw hm3 (if_pos rfl) ?_) dw);refine aa (ba (aa (aU ?_)));obtain⟨mN,n1,n2,n3,n4⟩:=XFc.ns2;have in3:(C b).K.In h3:=G.X.In r3.rel;refine vh (in3 _ _ hC) (n1.keeps r3.rel.old) n2 n3 n4 XFc.nmN ga3 nsd3 hv rfl ?_;refine aa (wpAny_letTemporaryGo (aE (aF ?_)));show wpAny (C b).M _ (eval (.Attribute (.Name (nmT dt) _) (nmT gK) _) env) _ _ _;rw[arm_eval_Attribute,hK rfl];have r4:=r3.trans (eR.more0 (s':={s2 with heap:=h3,toks:=s2.toks+1+1+1}) r3.rel (λI I e=>e) rfl rfl);refine aa (fY G (v:=.obj 5) (jm R F c2 c3 _ _ D L []) rfl en lh dh r4.rel λy5 v5=>?_);refine aa (ba (aa (aU (DG G (i:=5) (n:=gK) (v:=.int true st) rfl rfl rfl r4.rel v5 λs5 z5 r5 vz5=>?_))));refine aa (wpAny_letTemporaryGo (aE (aN ?_)));obtain⟨t5,rfl⟩:=vz5;refine⟨_,_,[.str true hY,.int true 22,.int true st],r5.rel,⟨_,_,rfl,⟨_,rfl⟩,_,_,rfl,⟨_,rfl⟩,_,_,rfl,⟨_,rfl⟩,rfl⟩,by show 3<=1000;decide,λs6 y6 r6' v6=>aF ?_⟩;have r6:=r5.trans r6';show wpAny (C b).M _ (eval (.Attribute (.Name (nmT dt) _) (nmT eP) _) env) _ _ _;rw[arm_eval_Attribute,hK rfl];refine aa (fY G (v:=.obj 5) (jm R F c2 c3 _ _ D L []) rfl en lh dh r6.rel λy7 v7=>?_);refine aa (ba (aa (aU (DG G (i:=5) (n:=eP) (v:=.obj 8) rfl rfl rfl r6.rel v7 λs7 z7 r7 vz7=>?_))));refine aa (wpAny_letTemporaryGo (aE (aN ?_)));refine⟨_,_,[.tup [.str true hY,.int true 22,.int true st],.obj 8],r7.rel,⟨_,_,rfl,r7.v r6.rel v6,_,_,rfl,vz7,rfl⟩,by show 2<=1000;decide,λs8 y8 r8' v8=>?_⟩;have r8:=((r4.trans r6).trans r7).trans r8';obtain⟨mp8,hm8,_⟩:=r8.rel.at en.loc (jm R F c2 c3 _ _ D L []);refine wpAny_nameGoes lw hm8 en.notCls λh9 m9 hm9 sb9=>?_;have tk9:=r8.rel.tkBut en.loc (jm R F c2 c3 _ _ D L []) rfl sb9;have r9:(C b).Rs ρ' (iG R F c2 c3 (ql mk nd sb an lim) (eG lim st) D L []) s8 ρ' (iG R F c2 c3 [] (eG lim st) D L []) {s8 with heap:=h9,toks:=s8.toks+1}:=
  eR.setC r8.rel en.loc (jm R F c2 c3 _ _ D L []) (o':=.frame []) rfl (λb x e m=>by rw[sb9.2 b (λq=>m (by rw[q];exact .head _))];exact e) ⟨_,hm9,λn v e=>by cases e⟩ rfl rfl (aY sb9.1.symm)
 exact q ρ' _ _ ((r2.trans r8).trans r9) (v8.up (.refl _) tk9)
end gE
theorem gE{b A env l ρ ρ' σ s R F c2 c3 D L mk an nd sb lim st pt ret pos Q E}:gE.zS b A env l ρ ρ' σ s R F c2 c3 D L mk an nd sb lim st pt ret pos Q E:=A1 (S:=λp=>gE.zS p.1 p.2.1 p.2.2.1 p.2.2.2.1 p.2.2.2.2.1 p.2.2.2.2.2.1 p.2.2.2.2.2.2.1 p.2.2.2.2.2.2.2.1 p.2.2.2.2.2.2.2.2.1 p.2.2.2.2.2.2.2.2.2.1 p.2.2.2.2.2.2.2.2.2.2.1 p.2.2.2.2.2.2.2.2.2.2.2.1 p.2.2.2.2.2.2.2.2.2.2.2.2.1 p.2.2.2.2.2.2.2.2.2.2.2.2.2.1 p.2.2.2.2.2.2.2.2.2.2.2.2.2.2.1 p.2.2.2.2.2.2.2.2.2.2.2.2.2.2.2.1 p.2.2.2.2.2.2.2.2.2.2.2.2.2.2.2.2.1 p.2.2.2.2.2.2.2.2.2.2.2.2.2.2.2.2.2.1 p.2.2.2.2.2.2.2.2.2.2.2.2.2.2.2.2.2.2.1 p.2.2.2.2.2.2.2.2.2.2.2.2.2.2.2.2.2.2.2.1 p.2.2.2.2.2.2.2.2.2.2.2.2.2.2.2.2.2.2.2.2.1 p.2.2.2.2.2.2.2.2.2.2.2.2.2.2.2.2.2.2.2.2.2.1 p.2.2.2.2.2.2.2.2.2.2.2.2.2.2.2.2.2.2.2.2.2.2.1 p.2.2.2.2.2.2.2.2.2.2.2.2.2.2.2.2.2.2.2.2.2.2.2.1 p.2.2.2.2.2.2.2.2.2.2.2.2.2.2.2.2.2.2.2.2.2.2.2.2) gE.zP (b,A,env,l,ρ,ρ',σ,s,R,F,c2,c3,D,L,mk,an,nd,sb,lim,st,pt,ret,pos,Q,E)
section
variable{b:Bs}
end
def Ij(c:Cx)(f:Nat)(vs:List V)(os:List O)(v:V)(H':List O):Prop:=
 ∀(A:Around) (xs:List Value) (s:Shared) (ρ:List Addr) (l:List Env) (Q E:Value->Shared->Prop),ee A c.P.room->c.R ρ os s.heap->iZ c.h₀ l A ρ os s.heap->(∀L∈l.filterMap (·.frame),L∈dA ρ os)->dy ρ s.heap vs xs->
  (∀ρ' s' y,c.Rs ρ os s ρ' H' s'->dH ρ' s'.heap v y->Q y s')->codeAny c.M A (.call (.ref f) ⟨xs,[]⟩) (λr s'=>match r with | .ok (.ret v)=>Q v s' | .ok _=>False | .error e=>E e s') s
theorem mQ{c:Cx}(X:c.Ok){f:Addr}{ps:List Nm}{body:List MS}{fd:FuncData}{bd:List Stmt}(K:tW c f ps body fd bd){n:Nat}{vs:List V}{os H' os'':List O}{b:List (Nm×V)}{v v':V}{g:Nat->Option Nat}(eb:pZ ps vs=some b)(T:dg c os.length g H' (·=os''))(rv:RV g v v')
  (H:∀(A:Around) (env:Env) (s:Shared) (ρ:List Addr) (l:List Env) (Q:Flow->Shared->Prop) (E:Value->Shared->Prop),ee A n->dE env os.length ρ->env.scope=fd.scope->env.frame=some env.locals->c.R ρ (os++[.frame b]) s.heap->iZ c.h₀ (env::l) A ρ (os++[.frame b]) s.heap->
   (∀L∈(env::l).filterMap (·.frame),L∈dA ρ (os++[.frame b]))->(∀ρ' s' y,c.Rs ρ (os++[.frame b]) s ρ' H' s'->dH ρ' s'.heap v y->Q (.ret y) s')->wpAny c.M A (execs bd env) Q E s):Ij (c.at (n+1)) f vs os v' os'':=by
 intro A xs s ρ l Q E rm R0 fr al vr q;have rm:ee A (n+1):=rm;have R0:c.R ρ os s.heap:=R0;obtain⟨oc,od,osl,hf⟩:=K.at_;have len:xs.length=ps.length:=by rw[vr.length,rt eb]
 have lim:s.heap.NoLimit:=X.lim.keeps R0.old;refine codeAny_call_def (by have:=rm.depth;omega) (X.In R0 _ _ hf) rfl lim (codeRec_of (X.In R0) K.code) K.fbody (K.bind _ (X.In R0) xs len) K.cell (λx m=>?_) (λh₀ hns kp=>?_) K.co K.gen K.kind
 .obtain⟨j,hj,e⟩:=List.mem_map.mp (cO m).1
  rw[<-e];exact K.loc j hj
 .have r0:c.Rs ρ os s (ρ++[s.heap.objs.size]) (os++[.frame b]) {s with heap:=h₀,toks:=s.toks+((ps.map c.nm).zip xs).length}:=by
   refine eR.pushC (o:=.frame b) R0 kp (λx m=>by cases aj.mp m;exact fA s) ⟨_,hns,λk v e=>?_⟩ rfl rfl ?_
   .obtain⟨x,e1,e2⟩:=pF X.inj eb vr K.nodup e
    exact⟨x,e1,e2.up (.app _ _) (.of_keeps kp)⟩
   .obtain⟨o,es,ep,ho,_⟩:=hns
    exact aZ (ay ho)
  have en:dE (callEnv fd s.heap.objs.size f) os.length (ρ++[s.heap.objs.size]):=⟨K.kind,by rw[<-R0.len];exact gr _ _,K.glob,K.blt⟩
  have fr':iZ c.h₀ (callEnv fd s.heap.objs.size f::l) (A.deeper (callEnv fd s.heap.objs.size f)) (ρ++[s.heap.objs.size]) (os++[.frame b]) h₀:=
   fr.push (env:=callEnv fd s.heap.objs.size f) r0.rel rfl K.kind R0.len kp (fA s)
  refine H (A.deeper _) _ _ _ l _ _ ⟨?_,?_,rm.handled⟩ en rfl rfl r0.rel fr' (λL m=>?_) λρ1 s1 y r1 v1=>?_
  .show A.depth+1+n<recursionLimit
   have:=rm.depth;omega
  .show A.units+3+8*n<cLine
   have:=rm.units;omega
  .rw[a8] at m
   rcases aD.mp m with rfl | m
   .exact dC.mpr ⟨os.length,_,_,en.loc,gr _ _,.head _⟩
   .exact(mJ s.heap.objs.size (.frame b) R0.len L).mpr (.inl (al L m))
  .obtain⟨ρ2,σ2,rfl,r2,g2,_⟩:=eR.tell (c:=c) (r0.trans r1) T (ao _) R0.len
   exact q ρ2 s1 y r2 (rv.rep g2 v1)
abbrev xp:Sk Stmt:=.try_ (.l [.x L0]) gF lA (.l [AE])
abbrev zk:Sk Expr:=.compT (.tup [.attr (.loc eH) iS,.loc ia]) (.item (.loc dj) (.cst (.int 2))) [eH,ia]
abbrev te:Sk Stmt:=.ret (.tup (.l [.tup (.l [.m (.cst (.str lX)),.m (.item (.loc dj) (.cst (.int 0))),.m (.item (.loc dj) (.cst (.int 1))),zk]),.m (.attr (.loc dt) eP)]))
theorem CK{scope:Scope}(h:nY scope):scope.kind= .function/\(∀y∈scope.names,y.2≠ .cell)/\(∀y∈scope.names,y.2≠ .free)/\∀y∈scope.names,y.2= .local->scope.names.lookup y.1=some .local:=by
 obtain⟨h,c⟩:=cW h;obtain⟨a,b⟩:=cW h;have b:=aT.mp b;have c:=aT.mp c;refine⟨am.mp a,λy m z=>?_,λy m z=>?_,λy m z=>?_⟩
 .have:=(cW (b y m)).1;rw[z] at this;exact absurd this ()
 .have:=(cW (b y m)).2;rw[z] at this;exact absurd this ()
 .have:=c y m
  rw[z] at this
  simpa using this
theorem tS{scope:Scope}(h:∀y∈scope.names,y.2≠ .free)(env:Env):relabel scope env=scope:=by
 unfold relabel;rw[map_eq_self (l:=scope.names) (λx hx=>by
  obtain⟨n,k⟩:=x;have:(k==NameKind.free)=false:=by simpa using h _ hx
  simp [this])]
def fw(k:Nat)(o:O):Prop:=∀f,(∀i,i<k->f i=some i)->RO f o o
theorem fw.more{k k':Nat}{o:O}(h:fw k o)(le:k<=k'):fw k' o:=λf hf=>h f λi hi=>hf i (by omega)
theorem sS:∀(n a i:Nat),i<n->fb (List.range' a n) (a+i)=some i
 |0,_,_,h=>absurd h (cB _)
 |n+1,a,0,_=>by
  rw[List.range'_succ];show(match Nat.beq a (a+0) with | true=>some 0 | false=>_)=_;rw[Nat.add_zero,Nat.beq_refl]
 |n+1,a,i+1,h=>by
  rw[List.range'_succ];show(match Nat.beq a (a+(i+1)) with | true=>some 0 | false=>match fb (List.range' (a+1) n) (a+(i+1)) with | some j=>some (j+1) | none=>none)=_;have:Nat.beq a (a+(i+1))=false:=by
   cases q:Nat.beq a (a+(i+1)) with
   |false=>rfl
   |true=>exact absurd (aP q) (by omega)
  rw[this];dsimp only;have:=sS n (a+1) i (by omega);rw[show a+1+i=a+(i+1) from by omega] at this;rw[this]
theorem qd{n i:Nat}(h:i<n):fb (List.range n) i=some i:=by
 have:=sS n 0 i h
 rwa [bS,<-List.range_eq_range'] at this
theorem H5{k:Nat}{f:Nat->Option Nat}(hf:∀i,i<k->f i=some i):∀{σ:List O},(∀o∈σ,fw k o)->ROs f σ σ
 |[],_=>rfl
 |o::σ,h=>.k (h o (.head _) f hf) (H5 hf λx m=>h x (.tail _ m))
theorem mn{c:Cx}{σ:List O}(τ:List O)(h:∀o∈σ,fw σ.length o):dg c σ.length (fb (List.range σ.length)) (σ++τ) (·=σ):=by
 refine dg.sel (I':=σ) ?_ List.nodup_range (λi hi=>?_) (H5 (λi hi=>qd hi) h)
 .apply List.ext_getElem
  .simp
  .intro i h1 h2
   have hi:i<σ.length:=by simpa using h1
   simp only[List.getElem_map,List.getElem_range];rw[dP,List.getElem?_append_left hi,List.getElem?_eq_getElem hi]
 .rw[dP,List.getElem?_range hi]
theorem kN{α:Type}(g:α->V){l:List α}{j:Nat}{v:V}(h:nth (l.map g) j=some v):∃x,nth l j=some x/\v=g x/\∀g':α->V,(l.take (j+1)).map g'=(l.take j).map g'++[g' x]:=by
 rw[jE] at h;obtain⟨x,h1,rfl⟩:=aq.mp h;refine⟨x,h1,rfl,λg'=>?_⟩;rw[dP] at h1;obtain⟨h2,h3⟩:=List.getElem?_eq_some_iff.mp h1;rw[List.take_add_one,h1];simp
def xS(s:Str):V:=.tup [.str false sK,.str true s]
nonrec theorem yH{b:Bs}{A:Around}{env:Env}{s:Shared}{ρ:List Addr}{F c2 c3 H D L:O}{mk an:Bool}{nd:V}{sb:Str}{lim bg en:Int}{ns:List Str}{xe:Expr}{Q E:Value->Shared->Prop}(G:dI b)(rm:ee A 40)(ev0:dE env 4 ρ)(ck:fE env.scope zk xe)(hz:ns.length<=1000)(R:(C b).R ρ (iG cY F c2 c3 (qZ mk nd sb an lim (lM bg en)) H D L [.list true (ns.map iB)]) s.heap)(hs:∀o∈iG cY F c2 c3 (qZ mk nd sb an lim (lM bg en)) H D L [.list true (ns.map iB)],fw 10 o)(q:∀ρ' s' y,(C b).Rs ρ (iG cY F c2 c3 (qZ mk nd sb an lim (lM bg en)) H D L [.list true (ns.map iB)]) s ρ' (iG cY F c2 c3 (qZ mk nd sb an lim (lM bg en)) H D L [.list true (ns.map iB),.list true (ns.map xS)]) s'->dH ρ' s'.heap (.obj 10) y->Q y s'):wpAny (C b).M A (eval (bE zk xe) env) Q E s:=by
 obtain⟨ci,qs,ct,ce⟩:=ck;obtain⟨hk,hcell,hfree,hnames⟩:=CK qs;generalize hσ:iG cY F c2 c3 (qZ mk nd sb an lim (lM bg en)) H D L [.list true (ns.map iB)]=σ at R hs q;have len:σ.length=10:=by rw[<-hσ];rfl
 refine qB G.X rm.handled (closureFor_none hfree) hcell hk hnames (λv=>mR ci (by intro z;cases z) env v) ?_;obtain⟨⟨fv,st⟩,e1,e2⟩:=aq.mp (show Option.map qa ((ev (Pg (fe []) (Ct b 0) (Lt b 0) 0) 20).e (.item (.loc dj) (.cst (.int 2))) 4 ⟨σ,[],[]⟩)=some (.obj 9,σ,[]) from by
  rw[<-hσ];exact Ly (Ct b 0) (Lt b 0) 0 cY F c2 c3 H D L mk nd sb an lim bg en [.list true (ns.map iB)])
 obtain⟨rfl,e3,e4⟩:fv= .obj 9/\st.os=σ/\st.cs=[]:=by simpa only[bc] using e2
 have n9:nth σ 9=some (.list true (ns.map iB)):=by rw[<-hσ];rfl
 have it0:=kS (c:=C b) (r:=0) (orc:=fe []) (n:=20) (fi:=4) (σ:=σ) (xs:=ns.map iB) (y:=true) G.X G.F (dD G rfl) e1 (by rw[e4];exact λI m=>by cases m) (by rw[e3];exact n9);rw[e3] at it0;refine it0 A env _ s ρ _ E (rm.less (show 20+0<=40 by decide)) ev0 ci R (λI I e=>by cases e) λρ1 s1 ge r1 x1 n1 f1=>?_;refine⟨ge,s,.lst 9 (ns.map iB),ρ,ρ1,σ,σ,λj τ vs=>σ=τ/\j<=ns.length/\vs=(ns.take j).map xS,fb (List.range 11),rfl,⟨R,r1,x1,n1,f1,?_,⟨rfl,aJ _,rfl⟩,?_,?_,ao _,?_⟩,?_⟩
 .intro vv v Ia j ρ' s' Q' E' hv vr xi hq
  obtain⟨x,_,rfl,_⟩:=kN iB hv;obtain⟨t,z',rfl,_⟩:=vr;obtain⟨a,_,hit⟩:=xi;exact wpAny_letOwnedTupleGo_listiter hit hq
 .rintro j τ vs ⟨rfl,hj,rfl⟩
  exact⟨by rw[af];exact(by rw[cc];omega),true,n9⟩
 .rintro j τ vs v Cc s2 ρ2 y E' ⟨rfl,hj,rfl⟩ hv _ r2 eC vy
  obtain⟨x,hx,rfl,hm⟩:=kN iB hv;obtain⟨t,z',rfl,itt,vr⟩:=vy;have en2:dE (compEnvC (de xe).s [] Cc env) 11 ρ2:=⟨hk,by rw[len] at eC;exact eC,ev0.glob,ev0.blt⟩
  have sc2:(compEnvC (de xe).s [] Cc env).scope=(de xe).s:=tS hfree env;obtain⟨q1,q2,q3⟩:=jH (c:=C b) (ns:=[eH,ia]) (env:=compEnvC (de xe).s [] Cc env) (by rw[sc2];exact ct);have e5:kl 11 [eH,ia] [.obj 0,.str true x] ⟨σ++[.list true ((ns.take j).map xS),.frame []],[],[]⟩=some ⟨σ++[.list true ((ns.take j).map xS),.frame [(eH,.obj 0),(ia,.str true x)]],[],[]⟩:=by rw[<-hσ];rfl
  refine wpAny_assign_Tuple rm.handled itt (by rw[q3];simp [vr.length]) q2 λh' xb=>?_;have kp:∀b o,s2.heap.get? b=some o->h'.get? b=some o:=λb o e=>xb b o (bG (ay e)) e;have r3:=eR.more0 (s':={s2 with heap:=h'}) r2.rel kp rfl rfl;refine(i9 (c:=C b) G.X e5).2 A _ _ ρ2 _ _ _ E' en2 q1 r3.rel (vr.up (.refl _) (.of_keeps kp)) λs4 r4=>?_;have he:σ++[.list true ((ns.take j).map xS),.frame [(eH,.obj 0),(ia,.str true x)]]=iG cY F c2 c3 (qZ mk nd sb an lim (lM bg en)) H D L [.list true (ns.map iB),.list true ((ns.take j).map xS),.frame [(eH,.obj 0),(ia,.str true x)]]:=by rw[<-hσ];rfl
  refine jh G (r:=0) (Le ..) trivial rfl (rm.less ()) en2 (by rw[sc2];exact ce) (he▸r4.rel) λρ5 s5 z r5 vz=>?_;rw[<-he] at r5;exact⟨ρ5,σ,xS x,_,(r3.trans r4).trans r5,rfl,vz,rfl,fO hx,(hm xS).symm⟩
 .rintro τ vs ⟨rfl,_,rfl⟩ _
  have:=mn (c:=C b) (σ:=σ++[.list true ((ns.take (qX.lst 9 (ns.map iB)).len).map xS)]) [.frame []] (λo m=>?_)
  .rw[aw] at this
   have l11:(σ++[O.list true ((ns.take (qX.lst 9 (ns.map iB)).len).map xS)]).length=11:=by rw[ai,len];rfl
   rw[l11] at this;rw[len];exact this
  .rcases bj.mp m with m | m
   .exact(hs o m).more (by rw[ai,len];exact aA _ _)
   .cases aj.mp m
    exact λf hf=>.l (.map' _ λx I=>.t (.k .s (.k .s .z)))
 .rintro ρ' s' τ vs D' ⟨rfl,_,rfl⟩ _ r eD
  have hL:(ns.take (qX.lst 9 (ns.map iB)).len)=ns:=by
   show ns.take (ns.map iB).length=ns;rw[af,cG]
  rw[hL] at r;refine q ρ' s' _ ?_ ⟨D',by rw[<-dP,<-len];exact eD,rfl⟩;revert r;rw[<-hσ];exact λr=>r
theorem CO{b:Bs}{r n fi:Nat}{σ I':List O}{ch:List Ch}{cs:List Prop}(G:dI b){EI:eZ}{l₁:List Nat}{m:ME}(h:Option.map zQ (rE (Pg (fe []) (Ct b r) (Lt b r) r) (ev (Pg (fe []) (Ct b r) (Lt b r) r) n) (tP (Pg (fe []) (Ct b r) (Lt b r) r) (Rg (fe l₁) (eU ((C b).at r) EI) (ma ((C b).at r) EI)) n) m fi ⟨σ,ch,[]⟩)=some (I',cs))(hc:jx cs)(h1:l₁.all (λf=>(oa.fn f).isSome)=true)
  {A:Around} {env:Env} {x:Expr} {s:Shared} {ρ:List Addr} {l:List Env} {Q E:Value->Shared->Prop} (rm:ee A (n+1+r)) (en:dE env fi ρ) (ck:dO nmT env.scope m x) (R:(C b).R ρ σ s.heap) (fr:iZ (C b).h₀ l A ρ σ s.heap)
  (q:∀ρ' s' a,d9 (C b) EI l ρ σ s I' ρ' a s'->E (.ref a) s'):wpAny (C b).M A (eval x env) Q E s:=by
 obtain⟨st,e1,e2⟩:=aq.mp h;obtain⟨rfl,rfl⟩:st.os=I'/\st.cs=cs:=by simpa only[bc] using e2
 have X:=jQ (c:=C b) (r:=r) (orc:=fe []) G.X;have Y:=gX (c:=C b) (r:=r) G.F (dD G (l:=[]) rfl);have Z:=qC (c:=C b) (r:=r) (orc:=fe []) (EI:=EI) (fe l₁) (dD G h1);obtain⟨he,_,_,_⟩:=gR X Y n;obtain⟨hC,_⟩:=nh (EI:=EI) X Y Z n;exact(pL X he hC _ _ _ _ e1 (gj hc)).2 A env x s ρ l Q E rm en ck R (λI I e=>by cases e) fr q
theorem fw.ref{k:Nat}:fw k cY:=λI I=>.ref
nonrec theorem Mw{b:Bs}{f:Nat}{nd:Nd}{s:Str}{an:Bool}{lim:Nat}{lg G':List LE}{st C':Nat}(G:dI b){y:l7}(T:Ct b 160 f [d6 0 nd,.str true s,.bool an,.obj 1] [cY,dG lim st,valO lg,.list true [],dz lg] (D0 5 y) ([cY,dG lim C',valO G',.list true [],dz G']++tc y))(F c2 c3:O)(fr:List (Nm×V)):Ct b 160 f [d6 0 nd,.str true s,.bool an,.obj 5] (iG cY F c2 c3 fr (eG (lim:Int) (st:Int)) (valO lg) (dz lg) []) (D0 9 y) (iG cY F c2 c3 fr (eG (lim:Int) (C':Int)) (valO G') (dz G') (tc y)):=by
 have hB:∀{f:Nat->Option Nat} {l':Int},f 2=some 6->f 3=some 7->f 4=some 8->RO f (cX (lim:Int) l') (eG (lim:Int) l'):=λh2 h3 h4=>.x (.k (.o h2) (.k .i (.k (.o h3) (.k .i (.k (.o h4) .z)))));have hA:RO (fb [0,5,6,7,8]) (eG (lim:Int) (st:Int)) (dG lim st):=.x (.k (.o rfl) (.k .i (.k (.o rfl) (.k .i (.k (.o rfl) .z)))));have q:=fJ.frame (l:=[0,5,6,7,8]) (os:=iG cY F c2 c3 fr (eG (lim:Int) (st:Int)) (valO lg) (dz lg) []) (I':=[cY,eG (lim:Int) (st:Int),valO lg,.list true [],dz lg]) (news:=[cY,eG (lim:Int) (C':Int),valO G',.list true [],dz G']++tc y) (vs:=[d6 0 nd,.str true s,.bool an,.obj 5]) (w:=D0 9 y) rfl T rfl ()
  (.k .ref (.k hA (.k (.valO lg) (.k (.l .z) (.k (.log lg) .z))))) (.k (.nd (by rfl) nd) (.k .s (.k .b (.k (.o rfl) .z))))
  (.k .ref (.k (hB rfl rfl rfl) (.k (.valO G') (.k (.l .z) (.k (.log G') (by cases y<;>first | exact .z | exact .k (.l (.nps (by rfl) _)) .z)))))) (by cases y<;>first | exact .n | exact .t (.k .i (.k .i (.k (.o (by rfl)) .z))))
 cases y<;>exact q
theorem Lv{b:Bs}(G:dI b){EI:eZ}{f:Nat}{nd:Nd}{s:Str}{an:Bool}{lim:Nat}{lg G':List LE}{st C':Nat}(T:eU ((C b).at 160) EI f [d6 0 nd,.str true s,.bool an,.obj 1] [cY,dG lim st,valO lg,.list true [],dz lg] [cY,dG lim C',valO G',.list true [],dz G'])(F c2 c3:O)(fr:List (Nm×V)):
  eU ((C b).at 160) EI f [d6 0 nd,.str true s,.bool an,.obj 5] (iG cY F c2 c3 fr (eG (lim:Int) (st:Int)) (valO lg) (dz lg) []) (iG cY F c2 c3 fr (eG (lim:Int) (C':Int)) (valO G') (dz G') []):=by
 have hB:∀{f:Nat->Option Nat} {l':Int},f 2=some 6->f 3=some 7->f 4=some 8->RO f (cX (lim:Int) l') (eG (lim:Int) l'):=λh2 h3 h4=>.x (.k (.o h2) (.k .i (.k (.o h3) (.k .i (.k (.o h4) .z)))));have hA:RO (fb [0,5,6,7,8]) (eG (lim:Int) (st:Int)) (dG lim st):=.x (.k (.o rfl) (.k .i (.k (.o rfl) (.k .i (.k (.o rfl) .z)))));exact eU.frame (l:=[0,5,6,7,8]) (os:=iG cY F c2 c3 fr (eG (lim:Int) (st:Int)) (valO lg) (dz lg) []) (I':=[cY,eG (lim:Int) (st:Int),valO lg,.list true [],dz lg]) (news:=[cY,eG (lim:Int) (C':Int),valO G',.list true [],dz G']) (vs:=[d6 0 nd,.str true s,.bool an,.obj 5]) rfl T rfl ()
  (.k .ref (.k hA (.k (.valO lg) (.k (.l .z) (.k (.log lg) .z))))) (.k (.nd (by rfl) nd) (.k .s (.k .b (.k (.o rfl) .z))))
  (.k .ref (.k (hB rfl rfl rfl) (.k (.valO G') (.k (.l .z) (.k (.log G') .z)))))
def mt(c:Cx):Prop:=∃fd bd,tW c 676 [dR,cU,cS,cT,dJ] gl fd bd/\Fj fd.scope (.l [.any,xp,.any,te]) bd=true
def Ei(lim:Nat):l7×List LE×Nat->V
 |(.met j e _,_,_)=>.tup [.tup [.str true lX,.int true (j:Int),.int true (e:Int),.obj 5],.obj 4]
 |(.nope _,_,_)=>.tup [.tup [.str true jo],.obj 4]
 |(.raised,_,st)=>.tup [.tup [.str true hY,.int true 22,.int true (st:Int)],.obj 4]
def ke:l7×List LE×Nat->List O
 |(.met _ _ ns,lg,_)=>[dz lg,.list true (ns.map xS)]
 |(.nope _,lg,_)=>[dz lg]
 |(.raised,lg,_)=>[dz lg]
def qu(mk:Bool)(s:Str)(nd:Nd)(an:Bool)(lim:Nat)(x:l7×List LE×Nat):Prop:=match mk with
 |true=>BH s (eA nd) lim (dK s an) 0 [] 0=some x
 |false=>CD s nd lim (dK s an) 0 [] 0=some x
section
variable{mk an:Bool}
theorem DZ{b:Bs}(G:dI b){s:Str}{p q:Nd}{lim:Nat}{x:l7×List LE×Nat}(hs:s.length<=8)(hlim:lim<990)(hn:gb (.cat p q)<100)(h:qu mk s (.cat p q) an lim x)(hr:∀l t,x≠(.raised,l,t)):
  Ct b 160 (LM mk) [d6 0 (.cat p q),.str true s,.bool an,.obj 1] [cY,dG lim 0,valO [],.list true [],dz []] (D0 5 x.1) ([cY,dG lim x.2.2,valO x.2.1,.list true [],dz x.2.1]++tc x.1):=by
 cases mk with
 |true=>exact My G hs hlim hn h (aJ _) (aJ _) hr
 |false=>exact F0 G hs hlim h (aJ _) (aJ _) hr
theorem DX{b:Bs}(G:dI b){EI:eZ}(SX:ik b EI){s:Str}{p q:Nd}{lim:Nat}{lg:List LE}{st:Nat}(hs:s.length<=8)(hlim:lim<990)(hn:gb (.cat p q)<100)(h:qu mk s (.cat p q) an lim (.raised,lg,st)):
  eU ((C b).at 160) EI (LM mk) [d6 0 (.cat p q),.str true s,.bool an,.obj 1] [cY,dG lim 0,valO [],.list true [],dz []] [cY,dG lim st,valO lg,.list true [],dz lg]:=by
 cases mk with
 |true=>exact Ms G hs hlim hn SX h (aJ _) (aJ _)
 |false=>
  have:=HC G hs hlim SX h (aJ _) (aJ _);exact λA xs s ρ l E rm=>this A xs s ρ l E (rm.less (show 150<=160 by decide))
theorem FrR.h{f:Nat->Option Nat}{nd:Nd}{s:Str}{lim:Int}{tl tl':List (Nm×V)}(h0:f 0=some 0)(k:FrR f (uW mk (d6 0 nd) s an lim tl) tl'):FrR f (uW mk (d6 0 nd) s an lim tl) (uW mk (d6 0 nd) s an lim tl'):=
 .k rfl .b (.k rfl (.nd h0 nd) (.k rfl .s (.k rfl .b (.k rfl .i k))))
abbrev Nb(F c2 c3:O)(mk:Bool)(nd:V)(s:Str)(an:Bool)(lim:Int):List O:=[cY,F,c2,c3,.frame (uW mk nd s an lim [(dt,.obj 7)]),.dict [],.list true [],.inst 576 [(gu,.obj 5),(dJ,.int true lim),(fS,.obj 6),(gK,.int false 0),(eP,.obj 9)],.frame [(cV,.obj 7),(gu,.obj 5),(dJ,.int true lim),(fS,.obj 6)],.list true []]
theorem Fx{b:Bs}{F c2 c3:O}(hF:fw 4 F)(h2:fw 4 c2)(h3:fw 4 c3)(mk:Bool)(nd:Nd)(s:Str)(an:Bool)(lim:Int):
  dg (C b) 5 (fb [0,1,2,3,4,7,5,6,9]) (Nb F c2 c3 mk (d6 0 nd) s an lim) (·=iG cY F c2 c3 (ql mk (d6 0 nd) s an lim) (eG lim 0) (valO []) (dz []) []):=by
 have h4:∀i,i<4->fb [0,1,2,3,4,7,5,6,9] i=some i:=by decide
 exact dg.sel (I':=[cY,F,c2,c3,.frame (uW mk (d6 0 nd) s an lim [(dt,.obj 7)]),.inst 576 [(gu,.obj 5),(dJ,.int true lim),(fS,.obj 6),(gK,.int false 0),(eP,.obj 9)],.dict [],.list true [],.list true []]) rfl () (fj rfl)
  (.k .ref (.k (hF _ h4) (.k (h2 _ h4) (.k (h3 _ h4) (.k (.f (.h (by rfl) (.k rfl (.o (by rfl)) .z))) (.k (.x (.k (.o (by rfl)) (.k .i (.k (.o (by rfl)) (.k .i (.k (.o (by rfl)) .z)))))) (.k .d (.k (.l .z) (.k (.l .z) .z)))))))))
end
theorem wz{b:Bs}{F c2 c3:O}(hF:fw 4 F)(h2:fw 4 c2)(h3:fw 4 c3){fr:List (Nm×V)}{H D:O}{lg:List LE}:dg (C b) 4 (fb [0,1,2,3,8]) (iG cY F c2 c3 fr H D (dz lg) []) (·=[cY,F,c2,c3,dz lg]):=by
 have h4:∀i,i<4->fb [0,1,2,3,8] i=some i:=by decide
 exact dg.sel (I':=[cY,F,c2,c3,dz lg]) rfl () (fj rfl) (.k .ref (.k (hF _ h4) (.k (h2 _ h4) (.k (h3 _ h4) (.k (.log lg) .z)))))
theorem BO{b:Bs}{F c2 c3:O}(hF:fw 4 F)(h2:fw 4 c2)(h3:fw 4 c3){fr:List (Nm×V)}{H D N:O}{lg:List LE}{ns:List Str}:dg (C b) 4 (fb [0,1,2,3,8,10]) (iG cY F c2 c3 fr H D (dz lg) [N,.list true (ns.map xS)]) (·=[cY,F,c2,c3,dz lg,.list true (ns.map xS)]):=by
 have h4:∀i,i<4->fb [0,1,2,3,8,10] i=some i:=by decide
 exact dg.sel (I':=[cY,F,c2,c3,dz lg,.list true (ns.map xS)]) rfl () (fj rfl) (.k .ref (.k (hF _ h4) (.k (h2 _ h4) (.k (h3 _ h4) (.k (.log lg) (.k (.l (.map' _ λx I=>.t (.k .s (.k .s .z)))) .z))))))
abbrev zR(y:Stmt):List ExceptHandler:=[.ExceptHandler (some (.Name (nmT gF) (kQ (oE (nR (JY y)).t)))) (some (nmT lA)) [bE AE (Kk (nR (JY y)).b)] (nR (JY y)).p]
theorem IJ{c:Prop}[Decidable c]{a b:Prop}(h:c->a)(k:¬c->b):if c then a else b:=if z:c then(if_pos z).symm▸h z else(if_neg z).symm▸k z
nonrec theorem GK{b:Bs}{mk:Bool}{s:Str}{p q:Nd}{an:Bool}{lim:Nat}{lg:List LE}{st:Nat}{F c2 c3:O}(G:dI b)(XFc:XF (C b))(SF:oU (C b))(HF:mt (C b)){y:l7}(hs:s.length<=8)(hlim:lim<990)(hn:gb (.cat p q)<100)(h:qu mk s (.cat p q) an lim (y,lg,st))(hz:∀j e ns,y= .met j e ns->ns.length<=1000)(hF:fw 4 F)(h2:fw 4 c2)(h3:fw 4 c3):Ij ((C b).at 201) 676 [.bool mk,d6 0 (.cat p q),.str true s,.bool an,.int true lim] [cY,F,c2,c3] (Ei lim (y,lg,st)) ([cY,F,c2,c3]++ke (y,lg,st)):=by
 obtain⟨fd,bd,K,ck⟩:=HF;obtain⟨y1,y2,y3,y4,rfl,⟨⟨ci,_⟩,cg,ce,_⟩,⟨m1,m2,m3,m4,_⟩,m5,_⟩:∃y1 y2 y3 y4,bd=[y1,bE xp y2,y3,bE te y4]/\fE fd.scope xp y2/\fE fd.scope te y4:=⟨_,_,_,_,(qh ck).1,(qh ck).2.2.1,(qh ck).2.2.2.2.1⟩
 have k1:gI nmT fd.scope (lU gl 0) y1:=(cW (cW K.chk).1).2;have kc:gI nmT fd.scope (lU gl 2) y3:=(cW (cW (cW (cW K.chk).2).2).1).2;obtain⟨tt,a',b',pi,ei,ti,ta,tb⟩:=pj _ _ (show gI nmT fd.scope (.ite (.loc dR) [.asg dj (xj iW)] [.asg dj (xj kx)]) (Kk (sW y2))=true from ci);obtain⟨ya,ra,rfl,ta1,e⟩:=gZ _ _ ta;obtain rfl:=oq _ _ e;obtain⟨yb,rb,rfl,tb1,e⟩:=gZ _ _ tb;obtain rfl:=oq _ _ e;have e2:bE xp y2= .Try [.If tt [ya] [yb] pi] (zR y2) [] [] (sQ y2):=az (λz=>Stmt.Try [z] (zR y2) [] [] (sQ y2)) ei;rw[e2] at K;have pre:∀(A:Around) (env:Env) (s0:Shared) (ρ:List Addr) (l:List Env) (Q:Flow->Shared->Prop) (E:Value->Shared->Prop),ee A 200->dE env 4 ρ->env.scope=fd.scope->env.frame=some env.locals->(C b).R ρ [cY,F,c2,c3,.frame (uW mk (d6 0 (.cat p q)) s an lim [])] s0.heap->
   iZ (C b).h₀ (env::l) A ρ [cY,F,c2,c3,.frame (uW mk (d6 0 (.cat p q)) s an lim [])] s0.heap->(∀L∈(env::l).filterMap (·.frame),L∈dA ρ [cY,F,c2,c3,.frame (uW mk (d6 0 (.cat p q)) s an lim [])])->
   ((y≠ .raised)->∀ρ' s',(C b).Rs ρ [cY,F,c2,c3,.frame (uW mk (d6 0 (.cat p q)) s an lim [])] s0 ρ' (iG cY F c2 c3 (qZ mk (d6 0 (.cat p q)) s an lim (D0 9 y)) (eG (lim:Int) (st:Int)) (valO lg) (dz lg) (tc y)) s'->dE env 4 ρ'->wpAny (C b).M A (execs [y3,bE te y4] env) Q E s')->
   (y= .raised->∀ρ' s' y,(C b).Rs ρ [cY,F,c2,c3,.frame (uW mk (d6 0 (.cat p q)) s an lim [])] s0 ρ' (iG cY F c2 c3 [] (eG (lim:Int) (st:Int)) (valO lg) (dz lg) []) s'->dH ρ' s'.heap (.tup [.tup [.str true hY,.int true 22,.int true (st:Int)],.obj 8]) y->Q (.ret y) s')->
   wpAny (C b).M A (execs [y1,.Try [.If tt [ya] [yb] pi] (zR y2) [] [] (sQ y2),y3,bE te y4] env) Q E s0:=by
  intro A env s0 ρ l Q E rm en sc ef R fr al q1 q2;refine ak (jJ G (LT _ _ 0 cY F c2 c3 mk (d6 0 (.cat p q)) s an lim) trivial rfl (rm.less ()) en (by rw[sc];exact k1) R λρ1 s1 fl r1 v1=>?_);cases v1;obtain⟨ρ2,σ2,rfl,r2,_,keep2,_⟩:=eR.tell (c:=C b) r1 (Fx hF h2 h3 mk (.cat p q) s an lim) (ao _) R.len;have en2:dE env 4 ρ2:=⟨en.kind,keep2 4 _ () (r1.grow _ _ en.loc),en.glob,en.blt⟩
  have fr2:=fr.res (c:=C b) r2;have br:∀(yy:Stmt) (ρ2:List Addr) (s3:Shared),dE env 4 ρ2->gI nmT fd.scope (.asg dj (xj (gN mk))) yy=true->
    (C b).Rs ρ [cY,F,c2,c3,.frame (uW mk (d6 0 (.cat p q)) s an lim [])] s0 ρ2 (iG cY F c2 c3 (ql mk (d6 0 (.cat p q)) s an lim) (eG lim 0) (valO []) (dz []) []) s3->
    ∀(Q':Flow->Shared->Prop) (E':Value->Shared->Prop),
    ((y≠ .raised)->∀ρ' s',(C b).Rs ρ [cY,F,c2,c3,.frame (uW mk (d6 0 (.cat p q)) s an lim [])] s0 ρ' (iG cY F c2 c3 (qZ mk (d6 0 (.cat p q)) s an lim (D0 9 y)) (eG (lim:Int) (st:Int)) (valO lg) (dz lg) (tc y)) s'->dE env 4 ρ'->Q' .next s')->
    (y= .raised->∀ρ' s' a,d9 (C b) (J2 (C b)) (env::l) ρ2 (iG cY F c2 c3 (ql mk (d6 0 (.cat p q)) s an lim) (eG lim 0) (valO []) (dz []) []) s3 (iG cY F c2 c3 (ql mk (d6 0 (.cat p q)) s an lim) (eG lim st) (valO lg) (dz lg) []) ρ' a s'->E' (.ref a) s')->
    wpAny (C b).M A (execs [yy] env) Q' E' s3:=by
   intro yy ρ2 s3 en2 cy r3 Q' E' hN hR;have wE:=fr.res (c:=C b) r3
   by_cases z:y= .raised
   .obtain⟨pz,v,p',rfl,hl,nc,cv⟩:=uN _ _ cy
    refine ak (cA ?_ (gy nc _ _ _));exact CO G (Mm ..) ⟨Lv G (DX G (Dg G XFc SF) hs hlim hn (z▸h)) F c2 c3 (ql mk (d6 0 (.cat p q)) s an lim),N4⟩ () (rm.less ()) en2 (by rw[sc];exact cv) r3.rel wE λρ4 s4 a rz=>hR z ρ4 s4 a rz
   .refine ak (jJ G (L2 ..) ⟨Mw G (DZ G hs hlim hn h λl t e=>z (az Prod.fst e)) F c2 c3 (ql mk (d6 0 (.cat p q)) s an lim),N4⟩ () (rm.less ()) en2 (by rw[sc];exact cy) r3.rel λρ4 s4 fl r4 v4=>?_)
    cases v4;exact aM (hN z ρ4 s4 (r3.trans r4) (en2.grow r4.grow))
  refine ak (wpAny_Try_except (ak (wpAny_If (pN G (Me _ _ 0 cY F c2 c3 _ _ _ mk (d6 0 (.cat p q)) s an lim []) trivial rfl (rm.less ()) en2 (by rw[sc];exact ti) r2.rel λρ3 s3 r3=>?_))));have r23:=r2.trans r3;have wE:=fr.res (c:=C b) r23;have hR:y= .raised->∀ρ' s' a,d9 (C b) (J2 (C b)) (env::l) ρ3 (iG cY F c2 c3 (ql mk (d6 0 (.cat p q)) s an lim) (eG lim 0) (valO []) (dz []) []) s3 (iG cY F c2 c3 (ql mk (d6 0 (.cat p q)) s an lim) (eG lim st) (valO lg) (dz lg) []) ρ' a s'->
    wpAny (C b).M A (noteFrame (.ref a) env) (λI s₂=>wpAny (C b).M A (setFlight (.ref a) none) (λI s₃=>wpAny (C b).M A (handleBy (.ref a) env (zR y2)) (λf s₁=>match f with | .next=>wpAny (C b).M A (execs [y3,bE te y4] env) Q E s₁ | f=>Q f s₁) E s₃) E s₂) E s':=by
   intro hx ρ4 s4 a rz;refine d9.noted rz fr.fr ef λs5 rz=>?_;have al3:∀L∈(env::l).filterMap (·.frame),L∈dA ρ3 (iG cY F c2 c3 (ql mk (d6 0 (.cat p q)) s an lim) (eG lim 0) (valO []) (dz []) []):=λL m=>by
    obtain⟨i,bb,e1,e2⟩:=fr.ap L m (al L m);obtain⟨b',e3⟩:=r23.frm i bb e2;exact dC.mpr ⟨i,L,_,r23.grow _ _ e1,e3,.head _⟩
   have g4:eE ρ3 ρ4:=by obtain⟨sm,fs,r,_⟩:=rz;exact r.grow
   refine gE G XFc rz r23.rel al3 ((en2.grow r3.grow).grow g4) ef (by rw[sc];exact cg) (by rw[sc];exact ce) λρ5 s5 y5 r5 v5=>?_;exact q2 hx ρ5 s5 y5 (r23.trans r5) v5
  refine IJ (λe=>?_) λe=>?_
  .exact br ya ρ3 s3 (en2.grow r3.grow) (by rw[e];exact ta1) r23 _ _ (λz ρ' s' r' e'=>aM (aM (q1 z ρ' s' r' e'))) hR
  .exact br yb ρ3 s3 (en2.grow r3.grow) (by rw[Bool.eq_false_iff.mpr e];exact tb1) r23 _ _ (λz ρ' s' r' e'=>aM (aM (q1 z ρ' s' r' e'))) hR
 cases y with
 |raised=>
  refine mQ (n:=200) G.X K (b:=uW mk (d6 0 (.cat p q)) s an lim []) rfl (wz hF h2 h3 (fr:=[]) (H:=eG (lim:Int) (st:Int)) (D:=valO lg) (lg:=lg)) (v:=.tup [.tup [.str true hY,.int true 22,.int true (st:Int)],.obj 8]) (.t (.k (.t (.k .s (.k .i (.k .i .z)))) (.k (.o rfl) .z))) ?_;intro A env s0 ρ l Q E rm en sc ef R fr al Hq;refine pre A env s0 ρ l Q E rm en sc ef R fr al (λh=>absurd rfl h) λe ρ' s' y r v=>Hq ρ' s' y r v
 |nope k=>
  refine mQ (n:=200) G.X K (b:=uW mk (d6 0 (.cat p q)) s an lim []) rfl (wz hF h2 h3 (fr:=qZ mk (d6 0 (.cat p q)) s an lim .none) (H:=eG (lim:Int) (st:Int)) (D:=valO lg) (lg:=lg)) (v:=.tup [.tup [.str false jo],.obj 8]) (.t (.k (.t (.k .s .z)) (.k (.o rfl) .z))) ?_;intro A env s0 ρ l Q E rm en sc ef R fr al Hq;refine pre A env s0 ρ l Q E rm en sc ef R fr al (λI ρ' s' r' en'=>?_) λe=>nomatch e
  refine ak (jJ G (Lb _ _ 0 cY F c2 c3 _ _ mk (d6 0 (.cat p q)) s an lim st) trivial rfl (rm.less ()) en' (by rw[sc];exact kc) r'.rel λρ1 s1 fl r1 v1=>?_);obtain⟨y,rfl,vy⟩:=v1;exact Hq ρ1 s1 y (r'.trans r1) vy
 |met j e ns=>
  refine mQ (n:=200) G.X K (b:=uW mk (d6 0 (.cat p q)) s an lim []) rfl (BO hF h2 h3 (fr:=qZ mk (d6 0 (.cat p q)) s an lim (lM j e)) (H:=eG (lim:Int) (st:Int)) (D:=valO lg) (N:=.list true (ns.map iB)) (lg:=lg) (ns:=ns)) (v:=.tup [.tup [.str false lX,.int true (j:Int),.int true (e:Int),.obj 10],.obj 8]) (.t (.k (.t (.k .s (.k .i (.k .i (.k (.o rfl) .z))))) (.k (.o rfl) .z))) ?_;intro A env s0 ρ l Q E rm en sc ef R fr al Hq;refine pre A env s0 ρ l Q E rm en sc ef R fr al (λI ρ' s' r' en'=>?_) λe=>nomatch e
  refine ak (jJ G (Kh _ _ 0 cY F c2 c3 _ _ mk (d6 0 (.cat p q)) s an lim st j e (.list true (ns.map iB))) trivial rfl (rm.less ()) en' (by rw[sc];exact kc) r'.rel λρ1 s1 fl r1 v1=>?_);cases v1;have en1:=en'.grow r1.grow;have nS:∀{m:ME} {x:Expr} {xs:List Expr},dO nmT fd.scope m x=true->starEach (x::xs) env=(false,eval x env)::starEach xs env:=λh=>ez (gQ _ _ _ _ h);refine ak (wpAny_Return_some (oy (aF (oy (aF ?_ (nS m1))))));refine jh G (Kg _ _ 0 cY F c2 c3 _ _ _ mk (d6 0 (.cat p q)) s an lim j e [.list true (ns.map iB)]) trivial rfl (rm.less ()) en1 (by rw[sc];exact m1) r1.rel λρ2 s2 x2 r2 v2=>aF ?_ (nS m2);refine jh G (Lw _ _ 0 cY F c2 c3 _ _ _ mk (d6 0 (.cat p q)) s an lim j e [.list true (ns.map iB)]) trivial rfl (rm.less ()) (en1.grow r2.grow) (by rw[sc];exact m2) r2.rel λρ3 s3 x3 r3 v3=>aF ?_ (nS m3);refine jh G (Lj _ _ 0 cY F c2 c3 _ _ _ mk (d6 0 (.cat p q)) s an lim j e [.list true (ns.map iB)]) trivial rfl (rm.less ()) ((en1.grow r2.grow).grow r3.grow) (by rw[sc];exact m3) r3.rel λρ4 s4 x4 r4 v4=>aF ?_ (ez rfl);have en4:=((en1.grow r2.grow).grow r3.grow).grow r4.grow;refine yH G (mk:=mk) (an:=an) (nd:=d6 0 (.cat p q)) (sb:=s) (lim:=lim) (bg:=j) (en:=e) (ns:=ns) (F:=F) (c2:=c2) (c3:=c3) (rm.less ()) en4 (by rw[sc];exact m4) (hz j e ns rfl) r4.rel ?_ λρ5 s5 x5 r5 v5=>aN ?_
  .intro o m
   have d:∀{o:O} {l:List O} {P:O->Prop},P o->(∀x∈l,P x)->∀x∈o::l,P x:=λa b x m=>by
    rcases aD.mp m with rfl | m
    .exact a
    .exact b x m
   refine d fw.ref (d (hF.more ()) (d (h2.more ()) (d (h3.more ()) (d ?_ (d ?_ (d ?_ (d ?_ (d ?_ (d ?_ λI m=>by cases m))))))))) o m
   .exact λf hf=>.f (.h (hf 0 ()) (.k rfl (.o (hf 5 ())) (.k rfl (.t (.k .i (.k .i (.k (.o (hf 9 ())) .z)))) .z)))
   .exact λf hf=>.x (.k (.o (hf 6 ())) (.k .i (.k (.o (hf 7 ())) (.k .i (.k (.o (hf 8 ())) .z)))))
   .exact λf hf=>.valO lg
   .exact λf hf=>.l .z
   .exact λf hf=>.log lg
   .exact λf hf=>.l (.nps (hf 0 ()) ns)
  have w2:=r5.v r4.rel (r4.v r3.rel (r3.v r2.rel v2));have w3:=r5.v r4.rel (r4.v r3.rel v3);have w4:=r5.v r4.rel v4;refine⟨ρ5,_,[.str false lX,.int true j,.int true e,.obj 10],r5.rel,⟨_,_,rfl,w2,_,_,rfl,w3,_,_,rfl,w4,_,_,rfl,v5,rfl⟩,by show 4<=1000;decide,λs6 y6 r6 v6=>aF ?_ (nS m5)⟩;refine jh G (KP _ _ 0 cY F c2 c3 _ _ mk (d6 0 (.cat p q)) s an lim st j e [.list true (ns.map iB),.list true (ns.map xS)]) trivial rfl (rm.less ()) (en4.grow r5.grow) (by rw[sc];exact m5) r6.rel λρ7 s7 x7 r7 v7=>aN ?_;refine⟨ρ7,_,[.tup [.str false lX,.int true j,.int true e,.obj 10],.obj 8],r7.rel,⟨_,_,rfl,r7.v r6.rel v6,_,_,rfl,v7,rfl⟩,by show 2<=1000;decide,λs8 y8 r8 v8=>?_⟩;exact Hq ρ7 s8 y8 (((((((r'.trans r1).trans r2).trans r3).trans r4).trans r5).trans r6).trans (r7.trans r8)) v8
structure gO(env:Env)(ρ:List Addr)(σ:List O)(h:Heap)(n:Nm)(i:Nat):Prop where
 kind:env.scope.names.lookup (nmT n)=some .cell
 ex:∃ca a,env.cells.lookup (nmT n)=some ca/\h.IsCell ca (some (.ref a))/\nth ρ i=some a/\ca∉dA ρ σ
section
variable{b:Bs} {env:Env} {ρ:List Addr} {s:Shared} {fi:Nat}
theorem gO.res{ρ':List Addr}{σ σ':List O}{s':Shared}{n:Nm}{i:Nat}(v:gO env ρ σ s.heap n i)(r:(C b).Rs ρ σ s ρ' σ' s'):gO env ρ' σ' s'.heap n i:=by
 obtain⟨k,ca,a,h1,⟨o,h2,h2'⟩,h3,h4⟩:=v;refine⟨k,ca,a,h1,⟨o,r.keep ca o h2 h4,h2'⟩,r.grow _ _ h3,λm=>?_⟩;rcases r.fresh ca m with m | m
 .exact h4 m
 .rw[m] at h2;cases h2
theorem gO.load{σ:List O}{n:Nm}{i:Nat}{A:Around}{E:Value->Shared->Prop}{pos:Pos}{Q:Value->Shared->Prop}(v:gO env ρ σ s.heap n i)(en:dE env fi ρ)(hd:(nmT n==("__debug__":Str))=false)(q:∀y,dH ρ s.heap (.obj i) y->Q y s):wpAny (C b).M A (eval (.Name (nmT n) pos) env) Q E s:=by
 obtain⟨k,ca,a,h1,h2,h3,h4⟩:=v;exact wpAny_Name (wpAny_loadName_cell en.kind k h1 h2 (q _ ⟨a,by rw[<-dP];exact h3,rfl⟩)) hd
abbrev qb(k:Int):Sk Expr:=.call (.glb km) (.l [.nm ey,.cst (.int k)])
abbrev yf:Sk Expr:=.call (.glb qF) (.l [.nm ey,.nm eH])
abbrev e7(fr:List (Nm×V))(p:List Int×Int)(tl:List O):List O:=.frame fr::fg p.1::gM 1 p.2::tl
theorem rD:(nmT ey==("__debug__":Str))=false:=by walk_at"k"
theorem FW:(nmT eH==("__debug__":Str))=false:=by walk_at"k"
theorem mV{A:Around}{E:Value->Shared->Prop}(G:dI b){fr:List (Nm×V)}{p:List Int×Int}{tl:List O}{k:Int}{e:Expr}{Q:Value->Shared->Prop}(rm:ee A 30)(en:dE env fi ρ)(ck:fE env.scope (qb k) e)(h:ie p)(hk:k≠0)(R:(C b).R ρ (e7 fr p tl) s.heap)(cv:gO env ρ (e7 fr p tl) s.heap ey 2)
  (q:∀ρ' s' y,(C b).Rs ρ (e7 fr p tl) s ρ' (e7 fr (take k p).2 tl) s'->dH ρ' s'.heap (.int true (take k p).1) y->Q y s'):wpAny (C b).M A (eval (bE (qb k) e) env) Q E s:=by
 have ck:=ck.1;refine bH (g8 (c:=C b) (st:=⟨_,[],[]⟩) G.X (n:=km) (v:=.val (.ref 643)) rfl en ck.1 ck.2 R λy vy=>?_);obtain⟨rfl,_⟩:=vy;refine callWith_of (P:=λh=>(C b).K.In h) rfl (keeps_K (dD G (l:=[643]) rfl 643 rfl)) (cu (aF (cv.load en rD λy vy=>aF (aR (aN ⟨?_,cR ?_⟩)))))
 .exact G.X.In (h:=s.heap) R
 .have T:=zI G (lim:=k) (os:=e7 fr p tl) (i:=2) (j:=1) h hk rfl rfl ()
  rw[aQ] at T;have r0:=eR.more0 (s':={s with toks:=s.toks+1}) R (λI I e=>e) rfl rfl;exact T A _ _ ρ Q E (rm.less (show 20<=30 by decide)) r0.rel (λI I e=>by cases e) (.cons vy (.cons ⟨_,rfl⟩ .nil)) λρ' s' y r v=>q ρ' s' y (r0.trans r) v
theorem JK(G:dI b){p:List Int×Int}(h:ie p)(fr:List (Nm×V))(tl:List O):Ct b 50 650 [.obj 2,.obj 3] (e7 fr p (cY::tl)) (db 3 (gk p).1) (e7 fr (gk p).2 (cY::tl)):=by
 have q:=fJ.frame (l:=[3,2,1]) (os:=e7 fr p (cY::tl)) (I':=[cY,gM 1 p.2,fg p.1]) (news:=[cY,gM 1 (gk p).2.2,fg (gk p).2.1]) (vs:=[.obj 2,.obj 3]) (w:=db 3 (gk p).1) rfl (Jh G h cY .ref) rfl ()
  (.k .ref (.k (.l (.k (.o rfl) (.k .i .z))) (.k (.l (.ints _)) .z))) (.k (.o rfl) (.k (.o rfl) .z))
  (.k .ref (.k (.l (.k (.o rfl) (.k .i .z))) (.k (.l (.ints _)) .z))) (.part (r:=0) (r':=3) rfl (gk p).1)
 have e:fB (e7 fr p (cY::tl)) [3,2,1] (List.take [3,2,1].length [cY,gM 1 (gk p).2.2,fg (gk p).2.1])++List.drop [3,2,1].length [cY,gM 1 (gk p).2.2,fg (gk p).2.1]=e7 fr (gk p).2 (cY::tl):=aQ _;rw[e] at q;exact q
theorem Cw{A:Around}{E:Value->Shared->Prop}(G:dI b){fr:List (Nm×V)}{p:List Int×Int}{tl:List O}{e:Expr}{Q:Value->Shared->Prop}(rm:ee A 60)(en:dE env fi ρ)(ck:fE env.scope yf e)(h:ie p)(R:(C b).R ρ (e7 fr p (cY::tl)) s.heap)(cv:gO env ρ (e7 fr p (cY::tl)) s.heap ey 2)(cr:gO env ρ (e7 fr p (cY::tl)) s.heap eH 3)
  (q:∀ρ' s' y,(C b).Rs ρ (e7 fr p (cY::tl)) s ρ' (e7 fr (gk p).2 (cY::tl)) s'->dH ρ' s'.heap (db 3 (gk p).1) y->Q y s'):wpAny (C b).M A (eval (bE yf e) env) Q E s:=by
 have ck:=ck.1;refine bH (g8 (c:=C b) (st:=⟨_,[],[]⟩) G.X (n:=qF) (v:=.val (.ref 650)) rfl en ck.1 ck.2 R λy vy=>?_);obtain⟨rfl,_⟩:=vy;refine callWith_of (P:=λh=>(C b).K.In h) rfl (keeps_K (dD G (l:=[650]) rfl 650 rfl)) (cu (aF (cv.load en rD λy vy=>aF (cr.load en FW λz vz=>aN ⟨?_,cR ?_⟩))))
 .exact G.X.In (h:=s.heap) R
 .exact JK G h fr tl A _ _ ρ Q E (rm.less (show 50<=60 by decide)) R (λI I e=>by cases e) (.cons vy (.cons vz .nil)) q
end
theorem ym{scope:Scope}{env:Env}(hk:env.scope.kind= .function)(h:∀y∈scope.names,y.2= .free->env.kindOf y.1=some .cell):relabel scope env=vA scope:=by
 unfold relabel vA;congr 1;refine List.map_congr_left λy m=>?_;obtain⟨n,k⟩:=y;dsimp only
 by_cases z:k= .free
 .subst z
  have:=h _ m rfl;dsimp only at this;rw[this,hk];rfl
 .have:(k==NameKind.free)=false:=by simpa using z
  rw[this];simp
theorem qt{env:Env}(f:Str×NameKind->List (Str×Addr)->Sem (ForInStep (List (Str×Addr))))
  (hf:∀name kind cells,f (name,kind) cells=if kind== .free then(do let a <-cellOf env name;pure (.yield ((name,a)::cells))) else pure (.yield cells)):
  ∀(names:List (Str×NameKind)) (B':List (Str×Addr)),(∀y∈names,y.2= .free->∃a,env.cells.lookup y.1=some a)->(∀n a,B'.lookup n=some a->env.cells.lookup n=some a)->
   ∃cl,forIn names B' f=pure cl/\(∀n a,cl.lookup n=some a->env.cells.lookup n=some a)/\(∀n,(B'.lookup n).isSome=true->(cl.lookup n).isSome=true)/\∀y∈names,y.2= .free->(cl.lookup y.1).isSome=true
 |[],B',_,ha=>⟨B',by rw[List.forIn_nil],ha,λI h=>h,λI m=>by cases m⟩
 |(n,k)::r,B',h,ha=>by
  rw[List.forIn_cons,hf]
  by_cases z:k= .free
  .subst z
   obtain⟨a,e⟩:=h _ (.head _) rfl;dsimp only at e;obtain⟨cl,h1,h2,h3,h4⟩:=qt f hf r ((n,a)::B') (λy m=>h y (.tail _ m)) (λn' a' q=>by
    rw[aW] at q;cases hb:n'==n with
    |true=>rw[hb] at q;cases q;rw[am.mp hb];exact e
    |false=>rw[hb] at q;exact ha _ _ q)
   have up:∀n',(B'.lookup n').isSome=true->(((n,a)::B').lookup n').isSome=true:=λn' q=>by
    rw[aW];cases hb:n'==n with
    |true=>rfl
    |false=>exact q
   refine⟨cl,?_,h2,λn' q=>h3 n' (up n' q),λy m=>?_⟩
   .rw[if_pos (show(NameKind.free==NameKind.free)=true from rfl)]
    unfold cellOf;rw[e];exact h1
   .rcases aD.mp m with rfl | m
    .intro _
     refine h3 _ ?_;show(((n,a)::B').lookup n).isSome=true;rw[aW,bC];rfl
    .exact h4 y m
  .have hz:(k==NameKind.free)=false:=by simpa using z
   obtain⟨cl,h1,h2,h3,h4⟩:=qt f hf r B' (λy m=>h y (.tail _ m)) ha;refine⟨cl,?_,h2,h3,λy m=>?_⟩
   .rw[if_neg (by rw[hz];decide)]
    exact h1
   .rcases aD.mp m with rfl | m
    .exact λq=>absurd q z
    .exact h4 y m
theorem tO{scope:Scope}{env:Env}(h:∀y∈scope.names,y.2= .free->∃a,env.cells.lookup y.1=some a):∃cl,closureFor scope env=pure cl/\∀y∈scope.names,y.2= .free->cl.lookup y.1=env.cells.lookup y.1:=by
 obtain⟨cl,h1,h2,_,h4⟩:=qt (env:=env) (λx r=>match x with | (name,kind)=>if(kind==NameKind.free)=true then(do let a <-cellOf env name;pure (.yield ((name,a)::r))) else pure (.yield r)) (λI I I=>rfl) scope.names [] h (λI I q=>by cases q);refine⟨cl,?_,λy m z=>?_⟩
 .simp only[closureFor]
  have e:∀(f g:Str×NameKind->List (Str×Addr)->Sem (ForInStep (List (Str×Addr)))),f=g->forIn scope.names [] g=pure cl->(forIn scope.names [] f >>= λr=>pure r)=(pure cl:Sem (List (Str×Addr))):=λf g q w=>by rw[q,w];rfl
  refine e _ _ ?_ h1;funext x r;obtain⟨n,k⟩:=x;cases hk:k==NameKind.free<;>simp [hk]
 .have:=h4 y m z
  obtain⟨a,e⟩:=Option.isSome_iff_exists.mp this;rw[e,h2 _ _ e]
structure Jq(scope:Scope)(env:Env)(fr:List Nm):Prop where
 kind:scope.kind= .function
 cell:∀y∈scope.names,y.2≠ .cell
 names:∀y∈scope.names,y.2= .local->scope.names.lookup y.1=some .local
 rel:relabel scope env=vA scope
 clos:∃cl,closureFor scope env=pure cl/\∀C n,n∈fr->∀ρ σ h i,gO env ρ σ h n i->gO (compEnvC scope cl C env) ρ σ h n i
nonrec theorem pT{scope:Scope}{env:Env}{fr:List Nm}(hk:env.scope.kind= .function)(h:yV nmT scope fr)(hc:∀n∈fr,∃ρ σ h i,gO env ρ σ h n i):Jq scope env fr:=by
 obtain⟨h,e⟩:=cW h;obtain⟨h,d⟩:=cW h;obtain⟨h,c⟩:=cW h;obtain⟨a,b⟩:=cW h;have b:=aT.mp b;have c:=aT.mp c;have d:=aT.mp d;have e:=aT.mp e;have fc:∀y∈scope.names,y.2= .free->∃ca,env.kindOf y.1=some .cell/\env.cells.lookup y.1=some ca:=λy m z=>by
  have:=d y m;rw[z] at this;obtain⟨n,hn,q⟩:=List.any_eq_true.mp (show(fr.any λn=>nmT n==y.1)=true from by simpa using this);obtain⟨_,_,_,_,cv,ca,_,h1,_⟩:=hc n hn;rw[am.mp q] at cv h1;exact⟨ca,cv,h1⟩
 have rel:=ym hk λy m z=>(fc y m z).choose_spec.1;refine⟨am.mp a,λy m z=>?_,λy m z=>?_,rel,?_⟩
 .have:=b y m;rw[z] at this;exact absurd this ()
 .have:=c y m
  rw[z] at this
  simpa using this
 .obtain⟨cl,h1,h2⟩:=tO λy m z=>⟨_,(fc y m z).choose_spec.2⟩
  refine⟨cl,h1,λCc n hn ρ σ h i v=>?_⟩;obtain⟨k1,k2⟩:=cW (e n hn);obtain⟨y,my,q⟩:=List.any_eq_true.mp k2;obtain⟨q1,q2⟩:=cW q;obtain⟨_,ca,a,e1,e2,e3,e4⟩:=v;refine⟨?_,ca,a,?_,e2,e3,e4⟩
  .show(relabel scope env).names.lookup (nmT n)=some .cell
   rw[rel];exact am.mp k1
  .show cl.lookup (nmT n)=some ca
   rw[<-am.mp q1,h2 y my (am.mp q2),am.mp q1];exact e1
nonrec theorem rT{b:Bs}{env:Env}{fi:Nat}{A:Around}{E:Value->Shared->Prop}{a f:Expr}{p:Pos}{ρ:List Addr}{σ σ1:List O}{m:Nat}{Q:Value->Shared->Prop}(G:dI b){s:Shared}(en:dE env fi ρ)(ck:fE env.scope (.glb gL) f)(hs:oW a)(hm:m<2^60)(R:(C b).R ρ σ s.heap)(ha:∀Q':Value->Shared->Prop,(∀ρ1 s1 y,(C b).Rs ρ σ s ρ1 σ1 s1->dH ρ1 s1.heap (.int true (m:Int)) y->Q' y s1)->wpAny (C b).M A (eval a env) Q' E s)(q:∀ρ' s' ge,(C b).Rs ρ σ s ρ' σ1 s'->jI (.rng m) ge 0 ρ' s'.heap->ge∉dA ρ' σ1->(s.heap.get? ge=none\/ge∈dA ρ σ)->Q (.ref ge) s'):wpAny (C b).M A (eval (.Call (bE (.glb gL) f) [a] [] p) env) (λv s1=>wpAny (C b).M A (pyIter v) Q E s1) E s:=by
 refine bH (g8 (c:=C b) (st:=⟨σ,[],[]⟩) (E:=E) G.X (n:=gL) (v:=.bi 6) rfl en ck.1 ck.2 R λy1 v1=>?_);cases v1;have e1:starEach [a] env=(false,eval a env)::starEach [] env:=ez hs;have ea:∀{f:Value} {Q:Args->Shared->Prop},wpAny (C b).M A (spliced (backTo p (starEach [a] env))) (λvs s'=>Q ⟨vs,[]⟩ s') E s->wpAny (C b).M A (evalArgs f true (backTo p (starEach [a] env)) []) Q E s:=λq=>by
  rw[e1] at q ⊢;exact cu q
 refine cE (by rw[e1];rfl) (ea (aF (ha _ λρ1 s1 y1 r1 v1=>?_) e1));obtain⟨t,rfl⟩:=v1;refine aN ?_;refine call_range_1 ?_;refine wpAny_pyIter_range (IsRange.new _ _ _ _ _ _ _) (small_one (by omega) (by omega) (by omega) (by omega)) ?_;have k1:∀o b q,s1.heap.get? b=some q->(s1.heap.push o).get? b=some q:=λo b q e=>ae _ e;refine q ρ1 _ _ (r1.trans (eR.more0 r1.rel (λb o e=>ae _ (ae _ e)) rfl rfl)) ?_ (λmm=>?_) ?_
 .show IsRangeIter _ _ _ _ _
  have sz:Builtin.Range.rangeSize 0 (m:Int) 1=(m:Int):=by rw[rangeSize_one];split<;>omega
  rw[sz,show(m:Int) - ((0:Nat):Int)=(m:Int) from by omega];exact aB _ rfl
 .obtain⟨o,e⟩:=r1.rel.there mm
  have h3:s1.heap.objs.size+1<s1.heap.objs.size:=by have:=ay e;rwa [bB] at this
  exact absurd h3 (cF.mpr (au _))
 .by_cases mm:(s1.heap.push {cls:=Value.type "range",data:=Data.fields #[Value.int 0 s1.toks,Value.int (m:Int) t,Value.int 1 (s1.toks+1)]}).objs.size∈dA ρ σ
  .exact .inr mm
  .refine .inl ?_
   cases e:s.heap.get? (s1.heap.push {cls:=Value.type "range",data:=Data.fields #[Value.int 0 s1.toks,Value.int (m:Int) t,Value.int 1 (s1.toks+1)]}).objs.size with
   |none=>rfl
   |some o=>
    have h3:s1.heap.objs.size+1<s1.heap.objs.size:=by have:=ay (r1.keep _ o e mm);rwa [bB] at this
    exact absurd h3 (cF.mpr (au _))
abbrev An(i k:Int):Sk Expr:=.bin (.cst (.int i)) .Add (qb k)
theorem wJ{b:Bs}{env:Env}{fi:Nat}{A:Around}{E:Value->Shared->Prop}(G:dI b){fr:List (Nm×V)}{p:List Int×Int}{tl:List O}{i k:Int}{e:Expr}{s:Shared}{ρ:List Addr}{Q:Value->Shared->Prop}(rm:ee A 30)(en:dE env fi ρ)(ck:fE env.scope (An i k) e)(h:ie p)(hk:k≠0)(R:(C b).R ρ (e7 fr p tl) s.heap)(cv:gO env ρ (e7 fr p tl) s.heap ey 2)
  (q:∀ρ' s' y,(C b).Rs ρ (e7 fr p tl) s ρ' (e7 fr (take k p).2 tl) s'->dH ρ' s'.heap (.int true (i+(take k p).1)) y->Q y s'):wpAny (C b).M A (eval (bE (An i k) e) env) Q E s:=by
 refine cQ (aR ?_);have r0:=eR.more0 (s':={s with toks:=s.toks+1}) R (λI I e=>e) rfl rfl;refine mV (s:={s with toks:=s.toks+1}) G rm en ck.2 h hk R cv λρ1 s1 y r1 v1=>?_;obtain⟨t1,rfl⟩:=v1;exact add_int (q _ _ _ ((r0.trans r1).trans (eR.more r1.rel (λI I e=>e) rfl rfl (ao _))) ⟨_,rfl⟩)
def d8:Nat->List Int×Int->List dZ×List Int×Int
 |0,p=>([],p)
 |n+1,p=>((d8 n p).1++[(gk (d8 n p).2).1],(gk (d8 n p).2).2)
theorem kh:∀n p,(d8 n p).1.length=n
 |0,_=>rfl
 |n+1,p=>by show((d8 n p).1++[_]).length=_;rw[ai,kh n p];rfl
theorem ly{p:List Int×Int}(h:ie p):∀n,ie (d8 n p).2
 |0=>h
 |n+1=>BE (ly h n)
abbrev rG(n:Nm)(k:Int):Sk Stmt:=.asgC n (.comp yf (.call (.glb gL) (.l [An 1 k])) kA [ey,eH])
section
variable{k:Nat}
theorem fw.inn(xs:List Int):fw k (fg xs):=λf I=>.l (.ints _)
theorem fw.box{z:Int}(h:1<k):fw k (gM 1 z):=λf hf=>.l (.k (.o (hf 1 h)) (.k .i .z))
theorem fw.parts{r:Nat}(h:r<k)(ps:List dZ):fw k (.list true (ps.map (db r))):=λf hf=>.l (.map' _ λx I=>.part (hf r h) x)
theorem im{α:Type}{P:α->Prop}{o:α}{l:List α}(a:P o)(b:∀x∈l,P x):∀x∈o::l,P x:=λx m=>by
 rcases aD.mp m with rfl | m
 .exact a
 .exact b x m
theorem s9{fr:List (Nm×V)}{p:List Int×Int}{tl:List O}(h:1<k)(hf:fw k (.frame fr))(ht:∀o∈tl,fw k o):∀o∈e7 fr p tl,fw k o:=
 im hf (im (.inn _) (im (.box h) ht))
theorem tC{τ:List O}{l:O}{fr:List (Nm×V)}{n:Nm}{v:V}:gW ⟨τ++[l,.frame fr],[],[]⟩ (τ.length+1) n v=some ⟨τ++[l,.frame (jD n v fr)],[],[]⟩:=by
 unfold gW;dsimp only;rw[mw];show some (mD ⟨τ++[l,.frame fr],[],[]⟩ (τ.length+1) (.frame (jD n v fr)))=_;unfold mD;dsimp only;rw[qf]
end
nonrec theorem sk{b:Bs}{env:Env}{A:Around}{E:Value->Shared->Prop}{fr:List (Nm×V)}{p:List Int×Int}{tl:List O}{n:Nm}{x:Stmt}{s:Shared}{ρ:List Addr}{Q:Flow->Shared->Prop}(G:dI b){k:Int}(rm:ee A 70)(en:dE env 0 ρ)(ck:fE env.scope (rG n k) x)(hb:ie p)(hk:0<k)(hk2:k<100)(R:(C b).R ρ (e7 fr p (cY::tl)) s.heap)(cv:gO env ρ (e7 fr p (cY::tl)) s.heap ey 2)(cr:gO env ρ (e7 fr p (cY::tl)) s.heap eH 3)(hS0:fw (5+tl.length) (.frame fr))(hS:fw (5+tl.length) (.frame (jD n (.obj (4+tl.length)) fr)))(hT:∀o∈tl,fw (5+tl.length) o)(q:∀ρ' s',(C b).Rs ρ (e7 fr p (cY::tl)) s ρ' (e7 (jD n (.obj (4+tl.length)) fr) (d8 (1+(take k p).1.toNat) (take k p).2).2 (cY::tl)++[.list true ((d8 (1+(take k p).1.toNat) (take k p).2).1.map (db 3))]) s'->Q .next s'):wpAny (C b).M A (exec (bE (rG n k) x) env) Q E s:=by
 obtain⟨hl,hp,hn,co,ht,⟨cf,ca,_⟩,ce⟩:=ck;have SC:=pT en.kind co λn m=>by
  rcases aD.mp m with rfl | m
  .exact⟨_,_,_,_,cv⟩
  .cases aj.mp m;exact⟨_,_,_,_,cr⟩
 obtain⟨cl,hcl,cvs⟩:=SC.clos;obtain⟨lk0,lk1⟩:=jG (lim:=k) hk p;have ht0:(take k p).1=((take k p).1.toNat:Int):=(Int.toNat_of_nonneg lk0).symm;have hm:(1:Int)+(take k p).1=((1+(take k p).1.toNat:Nat):Int):=by omega
 generalize hM:1+(take k p).1.toNat=m at hm q;have hm100:m<=100:=by omega
 have hb1:=jd (lim:=k) hb;generalize hP:(take k p).2=p1 at hb1 q;have len:∀{fr} p',(e7 fr p' (cY::tl)).length=4+tl.length:=λp'=>by show tl.length+1+1+1+1=_;omega
 refine wp (c:=C b) G.X rm.handled ?_ hcl SC.cell SC.kind SC.names (λv=>rfl) ?_
 .unfold swapsWith
  show(pure (env.blockKind== .function&&env.kindOf (nmT n)==some .local&&(kQ (sG x)).line==(kQ (sV x)).line&& !((de (sV x)).s.names.any λ(n',k)=>n'==nmT n&&(k== .local||k== .cell))):Sem Bool)=pure true;rw[hn,show env.kindOf (nmT n)=some .local from hl,hp,show env.blockKind= .function from by unfold Env.blockKind;rw[en.kind];rfl];rfl
 refine rT G (σ1:=e7 fr p1 (cY::tl)) (m:=m) en cf rfl (by omega) R (λQ' q'=>wJ G (rm.less ()) en ca hb (by omega) R cv λρ1 s1 y r1 v1=>q' ρ1 s1 y (by rw[<-hP];exact r1) (by rw[<-hm];exact v1)) λρ1 s1 ge r1 x1 n1 f1=>?_;have tell:∀(fr':List (Nm×V)) p' (ps:List dZ),fw (5+tl.length) (.frame fr')->dg (C b) (5+tl.length) (fb (List.range (5+tl.length))) (e7 fr' p' (cY::tl)++[.list true (ps.map (db 3)),.frame []]) (·=e7 fr' p' (cY::tl)++[.list true (ps.map (db 3))]):=λfr' p' ps hf=>by
  have:=mn (c:=C b) (σ:=e7 fr' p' (cY::tl)++[.list true (ps.map (db 3))]) [.frame []] (λo m=>?_)
  .rw[aw] at this
   have e:(e7 fr' p' (cY::tl)++[O.list true (ps.map (db 3))]).length=5+tl.length:=by rw[ai];show tl.length+1+1+1+1+1=_;omega
   rw[e] at this;exact this
  .have e:(e7 fr' p' (cY::tl)++[O.list true (ps.map (db 3))]).length=5+tl.length:=by rw[ai];show tl.length+1+1+1+1+1=_;omega
   rw[e];rcases bj.mp m with m | m
   .exact s9 (by omega) hf (im .ref hT) o m
   .cases aj.mp m
    exact .parts (by omega) ps
 refine⟨ge,s,.rng m,ρ,ρ1,e7 fr p (cY::tl),e7 fr p1 (cY::tl),λj τ vs=>τ=e7 fr (d8 j p1).2 (cY::tl)/\j<=m/\vs=(d8 j p1).1.map (db 3),fb (List.range (5+tl.length)),rfl,⟨R,r1,x1,n1,f1,?_,⟨rfl,aJ _,rfl⟩,?_,?_,aY (by rw[len,len]),?_⟩,?_⟩
 .intro vv v Ia j ρ' s' Q' E' hv vr xi hq
  exact bV (a:=Unit.unit) rfl hq
 .rintro j τ vs ⟨rfl,hj,rfl⟩
  exact⟨by rw[af,kh];omega,by show m<2^60;omega⟩
 .rintro j τ vs v Cc s2 ρ2 y E' ⟨rfl,hj,rfl⟩ hv hl2 r2 eC vy
  have hlt:=sw hv;have en2:dE (compEnvC (de (sV x)).s cl Cc env) ((e7 fr (d8 j p1).2 (cY::tl)).length+1) ρ2:=⟨by show(relabel (de (sV x)).s env).kind=_;rw[SC.rel];exact SC.kind,by rw[len] at eC ⊢;exact eC,en.glob,en.blt⟩
  have hlk:(compEnvC (de (sV x)).s cl Cc env).scope.names.lookup (nmT kA)=some .local:=lookup_relabel_local (env:=env) ht;refine bN ?_;obtain⟨_,_,k2⟩:=d7 (c:=C b) G.X (tC (τ:=e7 fr (d8 j p1).2 (cY::tl)) (l:=.list true ((d8 j p1).1.map (db 3))) (fr:=[]) (n:=kA) (v:=v));refine k2 A _ _ ρ2 y _ E' en2 hlk r2.rel vy λs3 r3=>?_;have r23:=r2.trans r3;have R23:(C b).R ρ2 (e7 fr (d8 j p1).2 (cY::(tl++[O.list true (List.map (db 3) (d8 j p1).1),O.frame (jD kA v [])]))) s3.heap:=r23.rel;refine Cw G (fr:=fr) (p:=(d8 j p1).2) (tl:=tl++[O.list true (List.map (db 3) (d8 j p1).1),O.frame (jD kA v [])]) (rm.less ()) en2 (by rw[show(compEnvC (de (sV x)).s cl Cc env).scope=vA (de (sV x)).s from SC.rel];exact ce) (ly hb1 j) R23 (cvs _ _ (.head _) _ _ _ _ (cv.res r23)) (cvs _ _ (.tail _ (.head _)) _ _ _ _ (cr.res r23)) λρ4 s4 z r4 v4=>?_;exact⟨ρ4,e7 fr (d8 (j+1) p1).2 (cY::tl),_,_,r3.trans r4,by rw[len,len],v4,rfl,hlt,by show _=((d8 j p1).1++[_]).map _;rw[bn];rfl⟩
 .rintro τ vs ⟨rfl,_,rfl⟩ _
  have:=tell fr (d8 (qX.rng m).len p1).2 (d8 (qX.rng m).len p1).1 hS0;rw[show(e7 fr (d8 (qX.rng m).len p1).2 (cY::tl)).length+1=5+tl.length from by rw[len];omega];exact this
 .rintro ρ' s' τ vs D Cc ⟨rfl,_,rfl⟩ hl2 r eD eC
  rw[len] at eD eC;obtain⟨_,_,k2⟩:=d7 (c:=C b) G.X (show gW ⟨e7 fr (d8 m p1).2 (cY::tl)++[.list true ((d8 m p1).1.map (db 3)),.frame []],[],[]⟩ 0 n (.obj (4+tl.length))=some ⟨e7 (jD n (.obj (4+tl.length)) fr) (d8 m p1).2 (cY::tl)++[.list true ((d8 m p1).1.map (db 3)),.frame []],[],[]⟩ from rfl);refine k2 A env s' ρ' (.ref D) _ E (en.grow r.grow) hl r.rel ⟨D,by rw[<-dP];exact eD,rfl⟩ λs'' r2=>?_;have r3:=r.trans r2;have T:=tell (jD n (.obj (4+tl.length)) fr) (d8 m p1).2 (d8 m p1).1 hS;obtain⟨hm',bh⟩:=qP (c:=C b) (τ:=e7 (jD n (.obj (4+tl.length)) fr) (d8 m p1).2 (cY::tl)) (g:=fb (List.range (5+tl.length))) R (by rw[len,len];exact ao _) r3 (by rw[len];exact eD) (by rw[len];exact eC) (by rw[len,show 4+tl.length+1=5+tl.length from by omega];exact T);refine⟨hm'.choose,hm'.choose_spec,λh' sb=>?_⟩;obtain⟨ρ2,r4,_⟩:=bh h' sb;exact q ρ2 _ r4
def yW(k:Int):Str:=⟨#[lW.cps.getD k.toNat 0]⟩
def dm:Nat->List Int×Int->List Str×List Int×Int
 |0,p=>([],p)
 |n+1,p=>((dm n p).1++[yW (take 2 (dm n p).2).1],(take 2 (dm n p).2).2)
theorem jc:∀n p,(dm n p).1.length=n
 |0,_=>rfl
 |n+1,p=>by show((dm n p).1++[_]).length=_;rw[ai,jc n p];rfl
theorem lJ{p:List Int×Int}(h:ie p):∀n,ie (dm n p).2
 |0=>h
 |n+1=>jd (lJ h n)
theorem ku:∀n p,∀y∈(dm n p).1,y.length<=1
 |0,_,_,m=>by cases m
 |n+1,p,y,m=>by
  rcases bj.mp (show y∈(dm n p).1++[_] from m) with m | m
  .exact ku n p y m
  .cases aj.mp m;exact ao 1
theorem xn{B:Nat}:∀(l:List Str) (a:Array Nat),(∀y∈l,y.length<=B)->(l.foldl (λB' p=>B'++(⟨#[]⟩:Str).cps++p.cps) a).size<=a.size+l.length*B
 |[],a,_=>by show a.size<=a.size+0*B;omega
 |y::l,a,h=>by
  have h1:=xn l (a++(⟨#[]⟩:Str).cps++y.cps) λz m=>h z (.tail _ m);have h2:y.cps.size<=B:=h y (.head _);rw[List.foldl_cons];rw[cK,cK] at h1;have h3:(⟨#[]⟩:Str).cps.size=0:=rfl;have h4:(y::l).length*B=l.length*B+B:=Nat.succ_mul _ _;omega
theorem E3{B:Nat}{l:List Str}(h:∀y∈l,y.length<=B):(Txt.join ⟨#[]⟩ l).length<=l.length*B:=by
 cases l with
 |nil=>exact aJ _
 |cons x l=>
  have h1:=xn l x.cps λz m=>h z (.tail _ m);have h2:x.cps.size<=B:=h x (.head _);have h4:(x::l).length*B=l.length*B+B:=Nat.succ_mul _ _;show(l.foldl (λB' p=>B'++(⟨#[]⟩:Str).cps++p.cps) x.cps).size<=_;omega
abbrev zh:Sk Stmt:=.asg (.tgt cS) (.meth (.cst (.str ⟨#[]⟩)) "join" (.l [.comp (.sub (.cst (.str lW)) (qb 2)) (.call (.glb gL) (.l [qb 5])) kA [ey]]))
theorem wn{ρ:List Addr}{h:Heap}:∀{ys:List Str} {z':List Value},dy ρ h (ys.map (V.str true)) z'->StrsAre z' ys
 |[],z',v=>by cases v;exact .nil
 |y::ys,z',v=>by
  obtain⟨z,zs,rfl,⟨t,rfl⟩,r⟩:=v;exact .cons y t (wn r)
nonrec theorem Bp{b:Bs}{env:Env}{A:Around}{E:Value->Shared->Prop}{e:Expr}{k1:Nat}{p1 ap cp:Pos}{s:Shared}{Q:Value->Shared->Prop}(hl:(ap.endLine==cp.line)=true)(hs:oW e)(h:∀(t tk:Nat),wpAny (C b).M A (eval e env) (λv s'=>∃D z' ys,v= .ref D/\s'.heap.IsList D (List.toArray z')/\StrsAre z' ys/\(ys.map (·.length)).sum<=1000/\∀t' k,Q (.str (Txt.join ⟨#[]⟩ ys) t') {s' with toks:=k}) E {s with toks:=tk}):wpAny (C b).M A (eval (.Call (.Attribute (.Constant (.str ⟨#[]⟩) k1 p1) "join" ap) [e] [] cp) env) Q E s:=by
 have e1:starEach [e] env=(false,eval e env)::starEach [] env:=ez hs;rw[arm_eval_Call,hK rfl];refine aa (cH ?_);refine aa (ba ?_);have hform:methodCallForm ([e].length+([]:List Keyword).length) (backTo cp (starEach [e] env)) (backToKw cp (keywordEach [] env))=true:=by
  unfold methodCallForm;rw[e1];rfl
 have hpos:methodCallPos true (.Constant (.str ⟨#[]⟩) k1 p1) env ap cp=pure cp:=by unfold methodCallPos;simp [hl]
 unfold methodCall;rw[hform];refine aa (aU (GM.join ?_));refine aa (bV hpos ?_);refine callWith_builtin (by rw[e1];rfl) ?_;have ea:∀{f:Value} {Q:Args->Shared->Prop} {s:Shared},wpAny (C b).M A (spliced (backTo cp (starEach [e] env))) (λvs s'=>Q ⟨vs,[]⟩ s') E s->wpAny (C b).M A (evalArgs f true (backTo cp (starEach [e] env)) []) Q E s:=λq=>by
  rw[e1] at q ⊢;exact cu q
 refine ea (aF (aK (h s.toks _) (λv s' hv=>?_) λI I z=>z) e1);obtain⟨D,z',ys,rfl,h1,h2,h3,q⟩:=hv;refine aN ?_;exact join_list h1 h2 (by rw[show(⟨#[]⟩:Str).length=0 from rfl];omega) q
theorem wU:∀{l:List Str},(∀y∈l,y.length<=1)->(l.map (·.length)).sum<=l.length
 |[],_=>ao _
 |x::l,h=>by
  have h1:=wU (l:=l) λy m=>h y (.tail _ m);have h2:=h x (.head _);rw[List.map_cons,List.sum_cons,bJ];omega
nonrec theorem Bo{b:Bs}{env:Env}{A:Around}{E:Value->Shared->Prop}{fr:List (Nm×V)}{p:List Int×Int}{x:Stmt}{s:Shared}{ρ:List Addr}{Q:Flow->Shared->Prop}(G:dI b)(rm:ee A 70)(en:dE env 0 ρ)(ck:fE env.scope zh x)(hb:ie p)(R:(C b).R ρ (e7 fr p [cY]) s.heap)(cv:gO env ρ (e7 fr p [cY]) s.heap ey 2)(hS0:fw 5 (.frame fr))(q:∀ρ' s',(C b).Rs ρ (e7 fr p [cY]) s ρ' (e7 (jD cS (.str true (Txt.join ⟨#[]⟩ (dm (take 5 p).1.toNat (take 5 p).2).1)) fr) (dm (take 5 p).1.toNat (take 5 p).2).2 [cY]++[.list true ((dm (take 5 p).1.toNat (take 5 p).2).1.map (V.str true))]) s'->Q .next s'):wpAny (C b).M A (exec (bE zh x) env) Q E s:=by
 obtain⟨hl,hap,_,⟨co,ht,⟨cf,ca,_⟩,_,ci⟩,_⟩:=ck;have SC:=pT en.kind co λn m=>by
  cases aj.mp m;exact⟨_,_,_,_,cv⟩
 obtain⟨cl,hcl,cvs⟩:=SC.clos;obtain⟨lk0,lk1⟩:=jG (lim:=5) () p;have hm:(take 5 p).1=((take 5 p).1.toNat:Int):=(Int.toNat_of_nonneg lk0).symm;generalize hM:(take 5 p).1.toNat=m at hm q;have hm100:m<=5:=by omega
 have hb1:=jd (lim:=5) hb;generalize hP:(take 5 p).2=p1' at hb1 q;refine cA (Bp hap rfl λt tk=>?_) (gy rfl _ _ _);have r0:(C b).Rs ρ (e7 fr p [cY]) s ρ (e7 fr p [cY]) {s with toks:=tk}:=eR.more0 R (λI I e=>e) rfl rfl;refine qB (c:=C b) G.X rm.handled hcl SC.cell SC.kind SC.names (λv=>rfl) ?_;refine rT G (σ1:=e7 fr p1' [cY]) (m:=m) en cf rfl (by omega) r0.rel (λQ' q'=>mV (s:={s with toks:=tk}) G (rm.less ()) en ca hb () r0.rel (cv.res r0) λρ1 s1 y r1 v1=>q' ρ1 s1 y (by rw[<-hP];exact r1) (by rw[<-hm];exact v1)) λρ1 s1 ge r1 x1 n1 f1=>?_;have tell:∀(fr':List (Nm×V)) p' (ys:List Str),fw 5 (.frame fr')->dg (C b) 5 (fb (List.range 5)) (e7 fr' p' [cY]++[.list true (ys.map (V.str true)),.frame []]) (·=e7 fr' p' [cY]++[.list true (ys.map (V.str true))]):=λfr' p' ys hf=>by
  exact mn (c:=C b) (σ:=e7 fr' p' [cY]++[.list true (ys.map (V.str true))]) [.frame []] (λo m=>by
   rcases bj.mp m with m | m
   .exact s9 () hf (im .ref λI m=>by cases m) o m
   .cases aj.mp m
    exact λf I=>.l (.map' _ λx I=>.s))
 refine⟨ge,_,.rng m,ρ,ρ1,e7 fr p [cY],e7 fr p1' [cY],λj τ vs=>τ=e7 fr (dm j p1').2 [cY]/\j<=m/\vs=(dm j p1').1.map (V.str true),fb (List.range 5),rfl,⟨r0.rel,r1,x1,n1,f1,?_,⟨rfl,aJ _,rfl⟩,?_,?_,ao _,?_⟩,?_⟩
 .intro vv v Ia j ρ' s' Q' E' hv vr xi hq
  exact bV (a:=Unit.unit) rfl hq
 .rintro j τ vs ⟨rfl,hj,rfl⟩
  exact⟨by rw[af,jc];omega,by show m<2^60;omega⟩
 .rintro j τ vs v Cc s2 ρ2 y E' ⟨rfl,hj,rfl⟩ hv hl2 r2 eC vy
  have hlt:=sw hv;have en2:dE (compEnvC (de (ic (kL (sV x)))).s cl Cc env) ((e7 fr (dm j p1').2 [cY]).length+1) ρ2:=⟨by show(relabel (de (ic (kL (sV x)))).s env).kind=_;rw[SC.rel];exact SC.kind,eC,en.glob,en.blt⟩
  have hlk:(compEnvC (de (ic (kL (sV x)))).s cl Cc env).scope.names.lookup (nmT kA)=some .local:=lookup_relabel_local (env:=env) ht;refine bN ?_;obtain⟨_,_,k2⟩:=d7 (c:=C b) G.X (tC (τ:=e7 fr (dm j p1').2 [cY]) (l:=.list true ((dm j p1').1.map (V.str true))) (fr:=[]) (n:=kA) (v:=v));refine k2 A _ _ ρ2 y _ E' en2 hlk r2.rel vy λs3 r3=>?_;have r23:=r0.trans (r2.trans r3);refine Subscript_ (cH ?_);have r4:=r3.trans (eR.more0 (s':={s3 with toks:=s3.toks+1}) r3.rel (λI I e=>e) rfl rfl);have R4:(C b).R ρ2 (e7 fr (dm j p1').2 (cY::([]++[O.list true (List.map (V.str true) (dm j p1').1),O.frame (jD kA v [])]))) ({s3 with toks:=s3.toks+1}:Shared).heap:=r4.rel;refine mV G (fr:=fr) (p:=(dm j p1').2) (tl:=cY::([]++[O.list true (List.map (V.str true) (dm j p1').1),O.frame (jD kA v [])])) (rm.less ()) en2 (by rw[show(compEnvC (de (ic (kL (sV x)))).s cl Cc env).scope=vA (de (ic (kL (sV x)))).s from SC.rel];exact ci) (lJ hb1 j) () R4 (cvs _ _ (.head _) _ _ _ _ (cv.res (r0.trans (r2.trans r4)))) λρ5 s5 z r5 v5=>?_;obtain⟨l0,l1⟩:=jG (lim:=2) () (dm j p1').2;refine(nT (c:=C b) (n:=0) (a:=.str false lW) (b:=.int true (take 2 (dm j p1').2).1) (st:=⟨_,[],[]⟩) (v:=.str true (yW (take 2 (dm j p1').2).1)) rfl (λP m=>?_)).2.2 A s5 ρ5 _ z _ _ _ E' rfl (rm.less ()) r5.rel (λI I e=>by cases e) ⟨_,rfl⟩ v5 λs6 z6 r6 v6=>?_
  .cases aj.mp m
   exact⟨l0,by show _<(2:Int);exact l1,Int.lt_trans l1 ()⟩
  .exact⟨ρ5,e7 fr (dm (j+1) p1').2 [cY],_,_,r4.trans (r5.trans r6),rfl,v6,rfl,hlt,by show _=((dm j p1').1++[_]).map _;rw[bn];rfl⟩
 .rintro τ vs ⟨rfl,_,rfl⟩ _
  exact tell fr _ _ hS0
 .rintro ρ' s' τ vs D ⟨rfl,_,rfl⟩ hl2 r eD
  obtain⟨z',n',ho,vr⟩:=r.rel.at eD (show nth (e7 fr (dm m p1').2 [cY]++[O.list true (List.map (V.str true) (dm m p1').1)]) 4=some (O.list true (List.map (V.str true) (dm m p1').1)) from rfl);refine⟨D,z',(dm m p1').1,rfl,⟨_,ho,rfl,n',rfl⟩,wn vr,?_,λt' k=>?_⟩
  .have:=wU (ku m p1')
   rw[jc] at this;omega
  .obtain⟨_,_,k2⟩:=d7 (c:=C b) G.X (show gW ⟨e7 fr (dm m p1').2 [cY]++[.list true ((dm m p1').1.map (V.str true))],[],[]⟩ 0 cS (.str true (Txt.join ⟨#[]⟩ (dm m p1').1))=some ⟨e7 (jD cS (.str true (Txt.join ⟨#[]⟩ (dm m p1').1)) fr) (dm m p1').2 [cY]++[.list true ((dm m p1').1.map (V.str true))],[],[]⟩ from rfl)
   have r5:=r.trans (eR.more0 (s':={s' with toks:=k}) r.rel (λI I e=>e) rfl rfl);exact k2 A env {s' with toks:=k} ρ' _ _ E (en.grow r.grow) hl r5.rel ⟨t',rfl⟩ λs'' r2=>q ρ' s'' ((r0.trans r5).trans r2)
section
variable{b:Bs} {env:Env} {A:Around} {E Q:Value->Shared->Prop} {s:Shared}
theorem jM(q:Q .none s):wpAny (C b).M A (evalPart none env) Q E s:=by rw[evalPart_none];exact aE q
theorem pP{e:Expr}(q:wpAny (C b).M A (eval e env) Q E s):wpAny (C b).M A (evalPart (some e) env) Q E s:=q
theorem oh{x:Str}{px:Pos}{lo hi st:Option Expr}{p pos:Pos}
  (h:wpAny (C b).M A (eval (.Name x px) env) (λov s1=>wpAny (C b).M A (evalPart lo env) (λl s2=>wpAny (C b).M A (evalPart hi env) (λu s3=>wpAny (C b).M A (evalPart st env) (λk s4=>∃(a:Addr) (z':List Value) (li ui ki:Option Int),ov= .ref a/\s4.heap.IsList a z'.toArray/\z'.length<=2^20/\IsPart l li/\IsPart u ui/\IsPart k ki/\ki≠some 0/\
   ∀h',(∀b o,s4.heap.get? b=some o->h'.get? b=some o)->h'.get? (s4.heap.objs.size+1)=some (fk (slicePick z'.toArray li ui ki).toList 0)->Q (.ref (s4.heap.objs.size+1)) {s4 with heap:=h'}) E s3) E s2) E s1) E s)
  (hs:∀o i,∃ops,subscripted (.Slice lo hi st p) false o i=operate ops (getItem o i)):wpAny (C b).M A (eval (.Subscript (.Name x px) (.Slice lo hi st p) pos) env) Q E s:=by
 refine Subscript_ (aK h (λov s1 h1=>wpAny_Slice (aK h1 (λl s2 h2=>aK h2 (λu s3 h3=>aK h3 (λk s4 h4=>?_) λI I z=>z) λI I z=>z) λI I z=>z)) λI I z=>z);obtain⟨a,z',li,ui,ki,rfl,hl,hz,pl,pu,pk,h0,q⟩:=h4;have big:=dv;obtain⟨ops,hs⟩:=hs (.ref a) (.ref s4.heap.objs.size);refine subscriptTail_ops (Heap.IsList.typeIs (s:={s4 with heap:=s4.heap.push {cls:=.type "slice",data:=.fields #[l,u,k]}}) (hl.push _)) list_getitem_lookup
  (wpAny_getItem_list_slice (hl.push _) (Heap.IsSliceOf.new ..) pl pu pk h0 ?_ (by simp;omega)) hs (by intro r;rfl)
 have e:(s4.heap.push {cls:=.type "slice",data:=.fields #[l,u,k]}).objs.size=s4.heap.objs.size+1:=bB ..;show Q (.ref (s4.heap.push _).objs.size) _;rw[e];refine q _ (λb o e=>ae _ (ae _ e)) ?_;rw[<-e,aB _ rfl]
def DL(h:Heap)(S:Addr)(xs:List Int):Prop:=∃z':List Value,h.IsList S z'.toArray/\∀ρ h',dy ρ h' (xs.map (V.int true)) z'
theorem dy.take{ρ:List Addr}{h:Heap}:∀{vs:List V} {z':List Value} (k:Nat),dy ρ h vs z'->dy ρ h (vs.take k) (z'.take k)
 |_,_,0,_=>by rw[List.take_zero,List.take_zero];exact .nil
 |[],_,k+1,v=>by cases v;exact .nil
 |w::vs,_,k+1,v=>by
  obtain⟨z,zs,rfl,v1,v2⟩:=v;exact⟨z,zs.take k,rfl,v1,v2.take k⟩
abbrev zZ:Sk Expr:=.sub (.loc eM) (.slc .no (.opt (.cst (.int 40))) .no)
theorem qU(G:dI b){x:Expr}{ρ:List Addr}{σ:List O}{fr:List (Nm×V)}{S:Addr}{xs:List Int}(en:dE env 0 ρ)(ck:fE env.scope zZ x)(hf:nth σ 0=some (.frame fr))(hS:gP eM fr=some (.val (.ref S)))(sc:DL s.heap S xs)(hx:xs.length<=100)(R:(C b).R ρ σ s.heap)
  (q:∀ρ' s' ge,(C b).Rs ρ σ s ρ' (σ++[.list true ((xs.take 40).map (V.int true))]) s'->jI (.lst σ.length ((xs.take 40).map (V.int true))) ge 0 ρ' s'.heap->ge∉dA ρ' (σ++[.list true ((xs.take 40).map (V.int true))])->(s.heap.get? ge=none\/ge∈dA ρ σ)->Q (.ref ge) s'):
  wpAny (C b).M A (eval (bE zZ x) env) (λv s1=>wpAny (C b).M A (pyIter v) Q E s1) E s:=by
 refine oh (hs:=λI I=>⟨_,rfl⟩) (fY G hf hS en ck.1.1 ck.1.2 R λy vy=>?_);obtain⟨rfl,_⟩:=vy;refine jM (pP (aR (jM ?_)));obtain⟨z',ho,vr⟩:=sc;have lz:z'.length=xs.length:=by have:=(vr [] s.heap).length;rw[af] at this;exact this
 refine⟨S,z',none,some 40,none,rfl,ho,by omega,.none,.int _ _,.none,by simp,λh' kp e=>?_⟩;have ep:slicePick z'.toArray none (some 40) none=(z'.take 40).toArray:=slicePick_upto' z'.toArray 40;rw[ep] at e;generalize hz:({s with toks:=s.toks+1}:Shared).heap.objs.size+1=D at e;have eD:D=s.heap.objs.size+1:=hz.symm;have fD:s.heap.get? D=none:=by
  cases q:s.heap.get? D with
  |none=>rfl
  |some o=>have:=ay q;rw[eD] at this;exact absurd this (cF.mpr (au _))
 have r1:(C b).Rs ρ σ s (ρ++[D]) (σ++[.list true ((xs.take 40).map (V.int true))]) {{s with toks:=s.toks+1} with heap:=h'}:=
  eR.pushC (o:=.list true ((xs.take 40).map (V.int true))) R kp (λx m=>by cases aj.mp m;exact fD) ⟨z'.take 40,0,e,by rw[List.map_take];exact(vr _ _).take 40⟩ rfl rfl (by
   have:=ay e;rw[eD] at this;exact aZ (bw (au _) this))
 refine wpAny_pyIter_list (items:=(z'.take 40).toArray) ⟨_,e,rfl,0,rfl⟩ ?_;have k2:∀b o,h'.get? b=some o->(h'.push {cls:=.type "list_iterator",data:=.fields #[.ref D,.int 0 0]}).get? b=some o:=λb o e=>ae _ e;have eN:nth (ρ++[D]) σ.length=some D:=by rw[<-R.len];exact gr _ _
 refine q (ρ++[D]) _ _ (r1.trans (eR.more0 r1.rel k2 rfl rfl)) ⟨D,eN,_,aB _ rfl,rfl,rfl⟩ (λm=>?_) ?_
 .obtain⟨o,e⟩:=r1.rel.there m
  exact absurd (ay e) (bD _)
 .by_cases m:h'.objs.size∈dA ρ σ
  .exact .inr m
  .cases e:s.heap.get? h'.objs.size with
   |none=>exact .inl rfl
   |some o=>exact absurd (ay (kp _ o e)) (bD _)
end
theorem DL.keep{h h':Heap}{S:Addr}{xs:List Int}(x:DL h S xs)(k:∀o,h.get? S=some o->h'.get? S=some o):DL h' S xs:=by
 obtain⟨z',⟨o,e,r⟩,v⟩:=x;exact⟨z',⟨o,k _ e,r⟩,v⟩
abbrev zg:Sk Expr:=.comp (.call (.glb HK) (.l [.loc lN])) zZ lN []
abbrev DP:Sk Stmt:=.asg (.cel ey) (.lst (.l [zg,.cst (.int 7)]))
nonrec theorem B8{b:Bs}{env:Env}{A:Around}{E:Value->Shared->Prop}{x:Expr}{s:Shared}{ρ:List Addr}{fr:List (Nm×V)}{S:Addr}{xs:List Int}{Q:Value->Shared->Prop}(G:dI b)(rm:ee A 10)(en:dE env 0 ρ)(ck:fE env.scope zg x)(hS:gP eM fr=some (.val (.ref S)))(sc:DL s.heap S xs)(hx:xs.length<=100)(R:(C b).R ρ [.frame fr] s.heap)(hf:fw 3 (.frame fr))(q:∀ρ' s' y,(C b).Rs ρ [.frame fr] s ρ' [.frame fr,fg (xs.take 40),fg (xs.take 40)] s'->dH ρ' s'.heap (.obj 2) y->Q y s'):wpAny (C b).M A (eval (bE zg x) env) Q E s:=by
 obtain⟨co,hl,ci,cf,⟨cl1,cd⟩,_⟩:=ck;have SC:=pT en.kind co λn m=>by cases m
 obtain⟨cl,hcl,_⟩:=SC.clos;refine qB (c:=C b) G.X rm.handled hcl SC.cell SC.kind SC.names (λv=>rfl) ?_;refine qU G en ci rfl hS sc hx R λρ1 s1 ge r1 x1 n1 f1=>?_;have lx:(xs.take 40).length<=100:=by rw[cc];omega
 refine⟨ge,s,.lst 1 ((xs.take 40).map (V.int true)),ρ,ρ1,[.frame fr],[.frame fr,fg (xs.take 40)],λj τ vs=>τ=[.frame fr,fg (xs.take 40)]/\j<=(xs.take 40).length/\vs=((xs.take 40).take j).map (V.int true),fb (List.range 3),rfl,⟨R,r1,x1,n1,f1,?_,⟨rfl,aJ _,rfl⟩,?_,?_,(show 1<=2 by decide),?_⟩,?_⟩
 .intro vv v Ia j ρ' s' Q' E' hv vr xi hq
  exact bV (a:=Unit.unit) rfl hq
 .rintro j τ vs ⟨rfl,hj,rfl⟩
  exact⟨by rw[af,cc];omega,true,rfl⟩
 .rintro j τ vs v Cc s2 ρ2 y E' ⟨rfl,hj,rfl⟩ hv _ r2 eC vy
  obtain⟨i,hi,rfl,hm⟩:=kN (V.int true) hv;have en2:dE (compEnvC (de x).s cl Cc env) 3 ρ2:=⟨by show(relabel (de x).s env).kind=_;rw[SC.rel];exact SC.kind,eC,en.glob,en.blt⟩
  have hlk:(compEnvC (de x).s cl Cc env).scope.names.lookup (nmT lN)=some .local:=lookup_relabel_local (env:=env) hl;have sce:(compEnvC (de x).s cl Cc env).scope=vA (de x).s:=SC.rel;refine bN ?_;obtain⟨_,_,k2⟩:=d7 (c:=C b) G.X (tC (τ:=[.frame fr,fg (xs.take 40)]) (l:=.list true (((xs.take 40).take j).map (V.int true))) (fr:=[]) (n:=lN) (v:=.int true i));refine k2 A _ _ ρ2 y _ E' en2 hlk r2.rel vy λs3 r3=>?_;refine bH (g8 (c:=C b) (st:=⟨_,[],[]⟩) G.X (n:=HK) (v:=.bi 5) rfl en2 (by rw[sce];exact cf.1) cf.2 r3.rel λz vz=>?_);cases vz;refine cE rfl (cu (aF (fY G (n:=lN) (fi:=3) (m:=[(lN,.int true i)]) rfl rfl en2 hlk cd r3.rel λz vz=>?_)));obtain⟨t,rfl⟩:=vz;refine aN (call_int_int ?_);exact⟨ρ2,[.frame fr,fg (xs.take 40)],.int true i,_,r3,rfl,⟨t,rfl⟩,rfl,fO hi,(hm (V.int true)).symm⟩
 .rintro τ vs ⟨rfl,_,rfl⟩ _
  exact mn (c:=C b) (σ:=[.frame fr,fg (xs.take 40),.list true (((xs.take 40).take _).map (V.int true))]) [.frame []] (im hf (im (.inn _) (im (.inn _) λI m=>by cases m)))
 .rintro ρ' s' τ vs D ⟨rfl,_,rfl⟩ _ r eD
  have hL:((xs.take 40).take (qX.lst 1 ((xs.take 40).map (V.int true))).len)=xs.take 40:=by
   show(xs.take 40).take ((xs.take 40).map (V.int true)).length=_;rw[af,cG]
  rw[hL] at r;exact q ρ' s' _ r ⟨D,by rw[<-dP];exact eD,rfl⟩
nonrec theorem CQ{b:Bs}{env:Env}{A:Around}{E:Value->Shared->Prop}{x:Stmt}{s₀ s:Shared}{ρ9 ρ:List Addr}{σ0:List O}{fr:List (Nm×V)}{S cb:Addr}{xs:List Int}{Q:Flow->Shared->Prop}(G:dI b)(rm:ee A 10)(en:dE env 0 ρ)(ck:fE env.scope DP x)(hS:gP eM fr=some (.val (.ref S)))(sc:DL s.heap S xs)(hx:xs.length<=100)(hf:∀k,fw k (.frame fr))(R0:(C b).R ρ9 σ0 s₀.heap)(r:(C b).Rs ρ9 σ0 s₀ ρ [.frame fr] s)(h1:σ0.length<=1)(hc:env.cells.lookup (nmT ey)=some cb)(hv:s.heap.IsCell cb none)(nf:cb∉dA ρ [.frame fr])(hn:s₀.heap.get? cb=none)(q:∀ρ' s',(C b).Rs ρ9 σ0 s₀ ρ' (e7 fr (xs.take 40,7) []) s'->gO env ρ' (e7 fr (xs.take 40,7) []) s'.heap ey 2->dE env 0 ρ'->(∀z∈dA ρ' (e7 fr (xs.take 40,7) []),z∈dA ρ [.frame fr]\/s.heap.get? z=none)->
   (∀b o,s.heap.get? b=some o->b∉dA ρ [.frame fr]->b≠cb->s'.heap.get? b=some o)->Q .next s'):wpAny (C b).M A (exec (bE DP x) env) Q E s:=by
 obtain⟨hl,ci,_⟩:=ck;refine cA (wpAny_List_spliced (aF (B8 G rm en ci hS sc hx r.rel (hf 3) λρ1 s1 y1 r1 v1=>aF (aR (aN ?_))) (ez rfl))) (gy rfl _ _ _);have r2:=r1.trans (eR.more0 (s':={s1 with toks:=s1.toks+1}) r1.rel (λI I e=>e) rfl rfl);obtain⟨r3,v3⟩:=eR.newL (xs:=[.obj 2,.int true 7]) (z':=[y1,.int 7 s1.toks]) (h':=s1.heap.push {cls:=.type "list",data:=.seq [y1,.int 7 s1.toks].toArray}) (s:={s1 with toks:=s1.toks+1}) (y:=true) r2.rel (λb o e=>ae _ e) (aB _ rfl) (.cons v1 (.cons ⟨_,rfl⟩ .nil));have r4:=r2.trans r3;have T:dg (C b) 1 (fb [0,2,3]) [.frame fr,fg (xs.take 40),fg (xs.take 40),.list true [.obj 2,.int true 7]] (·=e7 fr (xs.take 40,7) []):=
  dg.sel (I':=[.frame fr,fg (xs.take 40),.list true [.obj 2,.int true 7]]) rfl () (fj rfl) (.k (hf 1 _ λi hi=>by cases Nat.lt_one_iff.mp hi;rfl) (.k (.l (.ints _)) (.k (.l (.k (.o rfl) (.k .i .z))) .z)))
 have big:=dv;refine⟨by show 2<=_;omega,?_⟩;obtain⟨ρ5,σ5,rfl,r5,g5,keep5,ft5,_⟩:=eR.tell (c:=C b) r4 T (ao 1) r.rel.len;have hcell:({s1 with heap:=s1.heap.push {cls:=.type "list",data:=.seq [y1,.int 7 s1.toks].toArray},toks:=s1.toks+1}:Shared).heap.IsCell cb none:=by
  obtain⟨o,ho,hd⟩:=hv;exact⟨o,r5.keep cb o ho nf,hd⟩
 have nf5:cb∉dA ρ5 (e7 fr (xs.take 40,7) []):=λm=>by
  rcases r5.fresh cb m with m | m
  .exact nf m
  .obtain⟨o,ho,_⟩:=hv;rw[ho] at m;cases m
 refine wpAny_storeName_cell en.kind hl hc hcell λh' hc' sb=>?_;have r6:=r.trans r5;have r7:(C b).Rs ρ9 σ0 s₀ ρ5 (e7 fr (xs.take 40,7) []) {{s1 with heap:=s1.heap.push {cls:=.type "list",data:=.seq [y1,.int 7 s1.toks].toArray},toks:=s1.toks+1} with heap:=h'}:=by
  refine eR.off2 r6 R0 (λz' t=>?_) nf5 (.inl hn) (λb o hb e=>by rw[sb.2 b hb];exact e) rfl rfl;obtain⟨o,ho,hd⟩:=hcell;obtain⟨o',ho',_,n',hd'⟩:=t;rw[ho] at ho';cases ho';rw[hd] at hd';cases hd'
 refine q ρ5 _ r7 ⟨hl,cb,s1.heap.objs.size,hc,hc',?_,nf5⟩ (en.grow r5.grow) r5.fresh λb o e m hb=>?_
 .obtain⟨a,e,ea⟩:=v3
  cases ea;exact g5 3 2 rfl _ (by rw[dP];exact e)
 .rw[sb.2 b hb];exact r5.keep b o e m
theorem sL{c:Cx}{N2:qX}{env:Env}{A:Around}{E:Value->Shared->Prop}{s:Shared}{ρ:List Addr}{σ:List O}{y:Str}{py pos:Pos}{it:Expr}{body:List Stmt}{Q:Flow->Shared->Prop}{k:Nat}(J:Nat->List O->Prop)(R:c.R ρ σ s.heap)(hh:A.handled=none)(hk:σ.length<=k)(hset:∀v,foldedSetIterable it env v=pure v)
  (hi:wpAny c.M A (eval it env) (λv s1=>wpAny c.M A (pyIter v) (λw s2=>∃ge ρ1 σ1,w= .ref ge/\c.Rs ρ σ s ρ1 σ1 s2/\jI N2 ge 0 ρ1 s2.heap/\ge∉dA ρ1 σ1/\(s.heap.get? ge=none\/ge∈dA ρ σ)/\J 0 σ1) E s1) E s)
  (hsrc:∀i xs,N2= .lst i xs->i<k) (hin:∀j τ,J j τ->oB N2 τ)
  (turn:∀j τ v ρ' s' x E',J j τ->N2.at j=some v->c.Rs ρ σ s ρ' τ s'->dH ρ' s'.heap v x->wpAny c.M A (storeName env y x) (λI s1=>wpAny c.M A (execs body env) (λfl s2=>fl= .next/\∃ρ2 τ2 g,c.Rs ρ' τ s' ρ2 τ2 s2/\dg c k g τ2 (J (j+1))) E' s1) E' s')
  (fin:∀τ ρ' s',J N2.len τ->c.Rs ρ σ s ρ' τ s'->Q .next s'):wpAny c.M A (exec (.For (.Name y py) it body [] pos) env) Q E s:=by
 refine wpAny_For ?_ hset;refine aK hi (λv s1 h1=>aK h1 (λw s2 h2=>?_) λI I z=>z) λI I z=>z;obtain⟨Ia,ρ0,σ1,rfl,r0,x0,n0,f0,h0⟩:=h2;refine codeAny_forLoop_any (λm s'=>∃j ρ' σ',m=N2.len - j/\j<=N2.len/\J j σ'/\c.Rs ρ σ s ρ' σ' s'/\jI N2 Ia j ρ' s'.heap/\Ia∉dA ρ' σ') (λm s' hI=>?_) N2.len ⟨0,ρ0,σ1,by omega,by omega,h0,r0,x0,n0⟩;obtain⟨j,ρ1,σ',em,hj,i1,r1,x1,n1⟩:=hI;rw[em];obtain⟨oI,hoI,hnI⟩:=x1.obj;cases hv:N2.at j with
 |none=>
  have hj':=vR hv hj;refine yh hh r1.rel (hin _ _ i1) x1 hv hj λh' kp=>?_;refine aM ?_;exact fin σ' ρ1 _ (hj'▸i1) (r1.off R hoI hnI n1 f0 kp rfl rfl)
 |some v=>
  have hj':=sw hv;refine vJ r1.rel (hin _ _ i1) x1 hv λx h' tk vy x2 kp=>?_;have r2:c.Rs ρ σ s ρ1 σ' {s' with heap:=h',toks:=tk}:=r1.off R hoI hnI n1 f0 kp rfl rfl;refine bV (a:=Unit.unit) rfl ?_;refine bN (aK (turn j σ' v ρ1 _ x _ i1 hv r2 vy) (λI s3 h3=>aK h3 (λfl s4 h4=>?_) λI I z=>z) λI I z=>z);obtain⟨rfl,ρ4,τ4,g,r4,T⟩:=h4;have r04:c.Rs ρ σ s ρ4 τ4 s4:=r2.trans r4;obtain⟨x4,n4⟩:=x2.res (c:=c) r4 n1;obtain⟨ρ5,σ5,jj,r5,_,g5,f5,_⟩:=eR.tell (c:=c) r04 T hk R.len;exact⟨N2.len - (j+1),cL hj' (aX j),j+1,ρ5,σ5,rfl,hj',jj,r5,x4.same (λI e=>e) (λi xs a e ea=>g5 i a (hsrc i xs e) ea),λm=>n4 (f5 _ m)⟩
abbrev DK:Sk Stmt:=.asg (.sub (.nm ey) (.cst (.int 1))) (.bin (.bin (.bin (.sub (.nm ey) (.cst (.int 1))) .Mult (.cst (.int 31))) .Add (.loc lN)) .Mod (.cst (.int 1000003)))
abbrev zy:Sk Stmt:=.for_ (.tgt lN) zZ (.l [DK])
def iM:List Int->Int->Int
 |[],z=>z
 |x::xs,z=>iM xs ((z*31+x).fmod 1000003)
theorem Ao:∀(xs:List Int) {z:Int},0<=z->z<1000003->0<=iM xs z/\iM xs z<1000003
 |[],_,h0,h1=>⟨h0,h1⟩
 |x::xs,z,_,_=>Ao xs (Int.fmod_nonneg_of_pos _ ()) (Int.fmod_lt_of_pos _ ())
theorem uq:∀(xs:List Int) (x z:Int),iM (xs++[x]) z=(iM xs z*31+x).fmod 1000003
 |[],_,_=>rfl
 |y::xs,x,z=>uq xs x _
abbrev ib(S:Addr):List (Nm×V):=[(eM,.val (.ref S))]
nonrec theorem EK{b:Bs}{env:Env}{A:Around}{E:Value->Shared->Prop}{fr:List (Nm×V)}{p:List Int×Int}{tl:List O}{i:Int}{x:Stmt}{s:Shared}{ρ:List Addr}{Q:Flow->Shared->Prop}(G:dI b)(rm:ee A 10)(en:dE env 0 ρ)(ck:fE env.scope DK x)(hi:gP lN fr=some (.int true i))(R:(C b).R ρ (e7 fr p tl) s.heap)(cv:gO env ρ (e7 fr p tl) s.heap ey 2)(q:∀ρ' s',(C b).Rs ρ (e7 fr p tl) s ρ' (e7 fr (p.1,(p.2*31+i).fmod 1000003) tl) s'->Q .next s'):wpAny (C b).M A (exec (bE DK x) env) Q E s:=by
 obtain⟨lo,dl⟩:=ck.2.1.2;refine wpAny_Assign_Subscript ?_ (gy rfl _ _ _);refine cQ (cQ (cQ (Subscript_ (cv.load en rD λy vy=>aR ?_))));have r1:=eR.more0 (s':={s with toks:=s.toks+1}) R (λI I e=>e) rfl rfl;refine(nT (c:=C b) (n:=0) (a:=.obj 2) (b:=.int false 1) (st:=⟨e7 fr p tl,[],[]⟩) (C':=⟨e7 fr p tl,[],[]⟩) (v:=.int true p.2) rfl (λP m=>by cases m)).2.2 A {s with toks:=s.toks+1} ρ y _ _ _ _ E rfl (rm.less ()) r1.rel (λI I e=>by cases e) vy ⟨_,rfl⟩ λs2 y2 r2 v2=>?_;refine aR ?_;have r3:=(r1.trans r2).trans (eR.more0 (s':={s2 with toks:=s2.toks+1}) r2.rel (λI I e=>e) rfl rfl);refine(ni (c:=C b) (n:=0) (op:=.Mult) (a:=.int true p.2) (b:=.int false 31) (st:=⟨e7 fr p tl,[],[]⟩) (C':=⟨e7 fr p tl,[],[IntMulOk p.2 31]⟩) (v:=.int true (p.2*31)) rfl (λP m=>by cases aj.mp m;exact IntMulOk.of_right ())).2 A _ ρ y2 _ _ E (rm.less ()) r3.rel v2 ⟨_,rfl⟩ λρ4 s4 y4 r4 v4=>?_;have r34:=r3.trans r4;refine fY G (σ:=e7 fr p tl) (m:=fr) rfl hi (en.grow r34.grow) lo dl r34.rel λy5 v5=>?_;refine(ni (c:=C b) (n:=0) (op:=.Add) (a:=.int true (p.2*31)) (b:=.int true i) (st:=⟨e7 fr p tl,[],[]⟩) (C':=⟨e7 fr p tl,[],[]⟩) (v:=.int true (p.2*31+i)) rfl (λP m=>by cases m)).2 A s4 ρ4 y4 y5 _ E (rm.less ()) r34.rel v4 v5 λρ6 s6 y6 r6 v6=>?_;refine aR ?_;have r7:=(r34.trans r6).trans (eR.more0 (s':={s6 with toks:=s6.toks+1}) r6.rel (λI I e=>e) rfl rfl);refine(ni (c:=C b) (n:=0) (op:=.Mod) (a:=.int true (p.2*31+i)) (b:=.int false 1000003) (st:=⟨e7 fr p tl,[],[]⟩) (C':=⟨e7 fr p tl,[],[(1000003:Int)≠0]⟩) (v:=.int true ((p.2*31+i).fmod 1000003)) rfl (λP m=>by cases aj.mp m;exact(by decide:(1000003:Int)≠0))).2 A _ ρ6 y6 _ _ E (rm.less ()) r7.rel v6 ⟨_,rfl⟩ λρ8 s8 y8 r8 v8=>?_;have r78:=r7.trans r8;refine(cv.res r78).load (en.grow r78.grow) rD λy9 v9=>aR ?_;obtain⟨a,ha,rfl⟩:=v9;rw[<-dP] at ha;obtain⟨z',w,ho,z⟩:=r78.rel.at ha (show nth (e7 fr p tl) 2=some (gM 1 p.2) from rfl);refine qR (k:=1) ho rfl () (by rw[z.length];exact(by decide:1<2)) λh' m' e' sb=>?_;have tk:=r78.rel.tkBut ha (show nth (e7 fr p tl) 2=some (gM 1 p.2) from rfl) rfl sb;have r9:=r78.trans (eR.more0 (s':={s8 with toks:=s8.toks+1}) r78.rel (λI I e=>e) rfl rfl);refine q ρ8 _ (r9.trans (eR.setL (o':=gM 1 ((p.2*31+i).fmod 1000003)) r9.rel ha (show nth (e7 fr p tl) 2=some (gM 1 p.2) from rfl) rfl rfl sb ⟨_,_,e',?_⟩));exact(z.up (.refl _) tk).setN (v8.up (.refl _) tk) 1
nonrec theorem Bl{b:Bs}{env:Env}{A:Around}{E:Value->Shared->Prop}{x:Stmt}{s:Shared}{ρ:List Addr}{S:Addr}{xs:List Int}{Q:Flow->Shared->Prop}(G:dI b)(rm:ee A 10)(en:dE env 0 ρ)(ck:fE env.scope zy x)(sc:DL s.heap S xs)(hx:xs.length<=100)(R:(C b).R ρ (e7 (ib S) (xs.take 40,7) []) s.heap)(cv:gO env ρ (e7 (ib S) (xs.take 40,7) []) s.heap ey 2)(q:∀ρ' s',(C b).Rs ρ (e7 (ib S) (xs.take 40,7) []) s ρ' (e7 (ib S) (xs.take 40,iM (xs.take 40) 7) [fg (xs.take 40)]) s'->Q .next s'):wpAny (C b).M A (exec (bE zy x) env) Q E s:=by
 obtain⟨lo,ci,cm,_⟩:=ck;refine sL (c:=C b) (N2:=.lst 3 ((xs.take 40).map (V.int true))) (k:=4) (λj τ=>τ=e7 (ib S) (xs.take 40,iM ((xs.take 40).take j) 7) [fg (xs.take 40)]) R rm.handled (by decide:3<=4) (λI=>rfl) (qU G (σ:=e7 (ib S) (xs.take 40,7) []) en ci rfl rfl sc hx R λρ1 s1 ge r1 x1 n1 f1=>⟨ge,ρ1,_,rfl,r1,x1,n1,f1,rfl⟩) (λi xs e=>by cases e;decide) (λj τ e=>by subst e;exact⟨true,rfl⟩) ?_ ?_
 .rintro j τ v ρ' s' w E' rfl hv r vw
  obtain⟨i,hi,rfl,hm⟩:=kN (V.int true) hv;obtain⟨_,_,k2⟩:=d7 (c:=C b) G.X (show gW ⟨e7 (ib S) (xs.take 40,iM ((xs.take 40).take j) 7) [fg (xs.take 40)],[],[]⟩ 0 lN (.int true i)=some ⟨e7 (ib S++[(lN,.int true i)]) (xs.take 40,iM ((xs.take 40).take j) 7) [fg (xs.take 40)],[],[]⟩ from rfl);refine k2 A env s' ρ' w _ E' (en.grow r.grow) lo r.rel vw λs1 r1=>?_;refine ak (EK G (i:=i) rm (en.grow (r.trans r1).grow) cm rfl r1.rel (cv.res (r.trans r1)) λρ2 s2 r2=>aM ⟨rfl,ρ2,_,fb (List.range 4),r1.trans r2,?_⟩);have e:iM ((xs.take 40).take (j+1)) 7=(iM ((xs.take 40).take j) 7*31+i).fmod 1000003:=by
   have h1:(xs.take 40)[j]?=some i:=by rw[<-dP];exact hi
   rw[List.take_add_one,h1,Option.toList_some,uq]
  rw[e];exact dg.sel (I':=[.frame (ib S++[(lN,.int true i)]),fg (xs.take 40),gM 1 ((iM ((xs.take 40).take j) 7*31+i).fmod 1000003),fg (xs.take 40)]) rfl () (fj rfl) (.k (.f (.k rfl .v .z)) (.k (.l (.ints _)) (.k (.l (.k (.o rfl) (.k .i .z))) (.k (.l (.ints _)) .z))))
 .rintro τ ρ' s' rfl r
  have hL:((xs.take 40).take (qX.lst 3 ((xs.take 40).map (V.int true))).len)=xs.take 40:=by
   show(xs.take 40).take ((xs.take 40).map (V.int true)).length=_;rw[af,cG]
  rw[hL] at r;exact q ρ' s' r
def C6:ME:=.call (.glb Bi) [.cst (.str tD),.cst .none,.cst (.str sK)]
abbrev CI:Sk Stmt:=.asgP (.l [.tgt cT,.cel eH]) (.l [.cmp (qb 2) .Eq (.cst (.int 1)),.mb C6 (.call .any .any)])
theorem wD{ts vs:List Expr}{k k':Nat}{p p':Pos}{env:Env}(hk:env.scope.kind= .function)(h1:ts.length=2)(h2:vs.length=2)(h3:u1 vs=false)(h4:(hO env.scope ts).length≠2):swappedStores [.Tuple ts k p] (.Tuple vs k' p') env=pure none:=by
 have bk:(env.blockKind != .function)=false:=by
  unfold Env.blockKind;rw[hk];rfl
 unfold swappedStores;have a1:(!(ts.length==2||ts.length==3)||vs.length != ts.length||env.blockKind != .function)=false:=by
  rw[h1,bk,h2];rfl
 have a4:((hO env.scope ts).length != ts.length||(hO env.scope ts).eraseDups.length != (hO env.scope ts).length)=true:=by
  rw[h1];simp [h4]
 dsimp only;have no:∀{b:Bool},b=false->¬b=true:=λe=>by rw[e];exact b8
 refine(if_neg (no a1)).trans ?_;refine(if_neg (no h3)).trans ?_;exact if_pos a4
section
variable(sp:jA) (sl:jz) (r:Nat)
theorem Lu(F c1 c2 c3:O):Option.map qa ((ev (Pg (fe []) sp sl r) 20).e C6 0 ⟨[F,c1,c2,c3],[],[]⟩)=
  some (.obj 4,[F,c1,c2,c3,.inst 196 [(du,.str false tD),(g9,.none),(iS,.str false sK)],.frame [(cV,.obj 4),(du,.str false tD),(g9,.none),(iS,.str false sK)]],[]):=by
 walk_at"k"
end
nonrec theorem Ex{b:Bs}{env:Env}{A:Around}{E:Value->Shared->Prop}{p:List Int×Int}{ge:List Int}{S:Addr}{x:Stmt}{s₀ s:Shared}{ρ9 ρ:List Addr}{σ0:List O}{cr:Addr}{Q:Flow->Shared->Prop}(G:dI b)(rm:ee A 40)(en:dE env 0 ρ)(ck:fE env.scope CI x)(hb:ie p)(R0:(C b).R ρ9 σ0 s₀.heap)(h1:σ0.length<=1)(r:(C b).Rs ρ9 σ0 s₀ ρ (e7 (ib S) p [fg ge]) s)(cv:gO env ρ (e7 (ib S) p [fg ge]) s.heap ey 2)(hc:env.cells.lookup (nmT eH)=some cr)(hv:s.heap.IsCell cr none)(nf:cr∉dA ρ (e7 (ib S) p [fg ge]))(hn:s₀.heap.get? cr=none)(hne:∀ca,env.cells.lookup (nmT ey)=some ca->ca≠cr)(q:∀ρ' s',(C b).Rs ρ9 σ0 s₀ ρ' (e7 [(cT,.bool (decide ((take 2 p).1=1)))] (take 2 p).2 [cY]) s'->gO env ρ' (e7 [(cT,.bool (decide ((take 2 p).1=1)))] (take 2 p).2 [cY]) s'.heap ey 2->gO env ρ' (e7 [(cT,.bool (decide ((take 2 p).1=1)))] (take 2 p).2 [cY]) s'.heap eH 3->dE env 0 ρ'->Q .next s'):wpAny (C b).M A (exec (bE CI x) env) Q E s:=by
 obtain⟨hsw,⟨la,lr,_⟩,⟨ct,_⟩,⟨cn,_⟩,_⟩:=ck;have big:=dv;refine cC (cN (aF (wpAny_Compare1 (mV G (rm.less ()) en ct hb () r.rel cv λρ1 s1 y1 r1 v1=>aR ?_)))) rfl (wD en.kind rfl rfl rfl hsw);have r2:=r1.trans (eR.more0 (s':={s1 with toks:=s1.toks+1}) r1.rel (λI I e=>e) rfl rfl);refine(us (c:=C b) (n:=0) (op:=.Eq) (a:=.int true (take 2 p).1) (b:=.int false 1) (st:=⟨e7 (ib S) (take 2 p).2 [fg ge],[.b (decide ((take 2 p).1=1))],[]⟩) (C':=⟨e7 (ib S) (take 2 p).2 [fg ge],[],[decide ((take 2 p).1=1)=decide ((take 2 p).1=1)]⟩) (r:=decide ((take 2 p).1=1)) rfl (λP m=>by cases aj.mp m;rfl)).2.2 A _ ρ1 y1 _ _ E (rm.less ()) r2.rel (λI I e=>by cases e) v1 ⟨_,rfl⟩ ?_;refine aF (jh G (Lu _ _ 0 (.frame (ib S)) (fg (take 2 p).2.1) (gM 1 (take 2 p).2.2) (fg ge)) trivial rfl (rm.less ()) (en.grow r2.grow) cn r2.rel λρ3 s3 y3 r3 v3=>aN ⟨by show 2<=_;omega,?_⟩);generalize hB:decide ((take 2 p).1=1)=B at q;have r23:=r.trans (r2.trans r3);show wpAny (C b).M A (assign (.Tuple [.Name (nmT cT) (kQ (ic (kL (sG x)))),.Name (nmT eH) (kQ (ic (kL (sG x)).tail))] (de (sG x)).n (kQ (sG x))) env (.ref s3.heap.objs.size)) _ E _;have kp0:∀b o,s3.heap.get? b=some o->(s3.heap.push {cls:=.type "tuple",data:=.seq [Value.bool B,y3].toArray}).get? b=some o:=λb o e=>ae _ e;refine wpAny_assign_Tuple rm.handled (items:=[Value.bool B,y3].toArray) ⟨_,aB _ rfl,rfl,0,rfl⟩ rfl rfl λh' xb=>?_;have kp:∀b o,s3.heap.get? b=some o->h'.get? b=some o:=λb o e=>xb b o (bG (ay (kp0 b o e))) (kp0 b o e);have r4:=r3.trans (eR.more0 (s':={s3 with heap:=h'}) r3.rel kp rfl rfl);have r24:=r.trans (r2.trans r4);show wpAny (C b).M A (assignInOrder [assign (.Name (nmT cT) (kQ (ic (kL (sG x))))) env,assign (.Name (nmT eH) (kQ (ic (kL (sG x)).tail))) env] [Value.bool B,y3]) _ E {s3 with heap:=h'};refine aa (aU (bN ?_));obtain⟨_,_,k5⟩:=d7 (c:=C b) G.X (show gW ⟨[.frame (ib S),fg (take 2 p).2.1,gM 1 (take 2 p).2.2,fg ge,.inst 196 [(du,.str false tD),(g9,.none),(iS,.str false sK)],.frame [(cV,.obj 4),(du,.str false tD),(g9,.none),(iS,.str false sK)]],[],[]⟩ 0 cT (.bool B)=
  some ⟨[.frame (ib S++[(cT,.bool B)]),fg (take 2 p).2.1,gM 1 (take 2 p).2.2,fg ge,.inst 196 [(du,.str false tD),(g9,.none),(iS,.str false sK)],.frame [(cV,.obj 4),(du,.str false tD),(g9,.none),(iS,.str false sK)]],[],[]⟩ from rfl)
 refine k5 A env {s3 with heap:=h'} ρ3 (.bool B) _ E (en.grow (r2.trans r4).grow) la r4.rel rfl λs5 r5=>?_;have r25:=(r2.trans r4).trans r5;have T:dg (C b) 1 (fb [0,1,2,4]) [.frame (ib S++[(cT,.bool B)]),fg (take 2 p).2.1,gM 1 (take 2 p).2.2,fg ge,.inst 196 [(du,.str false tD),(g9,.none),(iS,.str false sK)],.frame [(cV,.obj 4),(du,.str false tD),(g9,.none),(iS,.str false sK)]] (·=e7 [(cT,.bool B)] (take 2 p).2 [cY]):=
  dg.sel (I':=[.frame (ib S++[(cT,.bool B)]),fg (take 2 p).2.1,gM 1 (take 2 p).2.2,.inst 196 [(du,.str false tD),(g9,.none),(iS,.str false sK)]]) rfl () (fj rfl) (.k (.f (.k rfl .b .z)) (.k (.l (.ints _)) (.k (.l (.k (.o rfl) (.k .i .z))) (.k (.x (.k .s (.k .n (.k .s .z)))) .z))))
 refine aa (aU (bN ?_));have r05:=r.trans r25;obtain⟨ρ6,σ6,rfl,r6,g6,keep6,ft6,_⟩:=eR.tell (c:=C b) r05 T h1 R0.len;have old:∀ca o,s.heap.get? ca=some o->ca∉dA ρ (e7 (ib S) p [fg ge])->s5.heap.get? ca=some o/\ca∉dA ρ6 (e7 [(cT,.bool B)] (take 2 p).2 [cY]):=λca o e m=>by
  refine⟨r25.keep ca o e m,λm'=>?_⟩;rcases r25.fresh ca (ft6 ca m') with z | z
  .exact m z
  .rw[e] at z;cases z
 obtain⟨oc,hoc,hdc⟩:=hv;obtain⟨hc5,nf5⟩:=old cr oc hoc nf;refine wpAny_storeName_cell en.kind lr hc ⟨oc,hc5,hdc⟩ λh'' hc'' sb=>?_;have r7:(C b).Rs ρ9 σ0 s₀ ρ6 (e7 [(cT,.bool B)] (take 2 p).2 [cY]) {s5 with heap:=h''}:=by
  refine eR.off2 r6 R0 (λz' t=>?_) nf5 (.inl hn) (λb o hb e=>by rw[sb.2 b hb];exact e) rfl rfl;obtain⟨o',ho',_,n',hd'⟩:=t;rw[hc5] at ho';cases ho';rw[hdc] at hd';cases hd'
 obtain⟨kb,ca,ab,e1,⟨ob,e2,e2'⟩,e3,e4⟩:=cv;obtain⟨e5,e6⟩:=old ca ob e2 e4;have g3:∀i j a,fb [0,1,2,4] i=some j->nth ρ3 i=some a->nth ρ6 j=some a:=λi j a h e=>g6 i j h a (r5.grow _ _ e);obtain⟨a3,ea3,rfl⟩:=v3;have e30:nth ρ6 0=some env.locals:=g3 0 0 _ rfl ((r2.trans r3).grow _ _ en.loc);refine aE (q ρ6 _ r7 ⟨kb,ca,ab,e1,⟨ob,by rw[sb.2 ca (hne ca e1)];exact e5,e2'⟩,g3 2 2 _ rfl ((r2.trans r3).grow _ _ e3),e6⟩ ⟨lr,cr,a3,hc,hc'',g3 4 3 _ rfl (by rw[dP];exact ea3),nf5⟩ ⟨en.kind,e30,en.glob,en.blt⟩)
def tF(an:Bool)(s:Str)(tl:List (Nm×V)):List (Nm×V):=[(cT,.bool an),(cS,.str true s),(gY,.obj 4),(gV,.obj 5)]++tl
abbrev j5(an:Bool)(s:Str)(tl:List (Nm×V))(p:List Int×Int)(fp bp:List dZ)(os:List O):List O:=e7 (tF an s tl) p (cY:: .list true (fp.map (db 3)):: .list true (bp.map (db 3))::os)
def HO:MS:=.asg cU (.tup [.cst (.str fQ),.loc dU,.loc cU])
def HN:MS:=.asg cU (.tup [.cst (.str fQ),.loc cU,.loc dU])
def De:MS:=.asg cU (.tup [.cst (.str gz)])
section
variable(sp:jA) (sl:jz) (r:Nat)
section
variable(an:Bool) (s:Str) (i z f bh l:O) (N P:V)
theorem KV:Option.map qi (ju (Pg (fe []) sp sl r) (ev (Pg (fe []) sp sl r) 20) De 0 ⟨.frame (tF an s [])::i::z::cY::f::bh::[],[],[]⟩)=
  some (.next,.frame (tF an s [(cU,.tup [.str false gz])])::i::z::cY::f::bh::[],[]):=by walk_at"k"
theorem Ja:Option.map qi (ju (Pg (fe []) sp sl r) (ev (Pg (fe []) sp sl r) 20) HO 0 ⟨.frame (tF an s [(cU,N),(dU,P)])::i::z::cY::f::bh::[l],[],[]⟩)=
  some (.next,.frame (tF an s [(cU,.tup [.str false fQ,P,N]),(dU,P)])::i::z::cY::f::bh::[l],[]):=by walk_at"k"
theorem Jz:Option.map qi (ju (Pg (fe []) sp sl r) (ev (Pg (fe []) sp sl r) 20) HN 0 ⟨.frame (tF an s [(cU,N),(dU,P)])::i::z::cY::f::bh::[],[],[]⟩)=
  some (.next,.frame (tF an s [(cU,.tup [.str false fQ,N,P]),(dU,P)])::i::z::cY::f::bh::[],[]):=by walk_at"k"
theorem KF:(ev (Pg (fe []) sp sl r) 20).e (.loc gV) 0 ⟨.frame (tF an s [(cU,N)])::i::z::cY::f::bh::[],[],[]⟩=
  some (.obj 5,⟨.frame (tF an s [(cU,N)])::i::z::cY::f::bh::[],[],[]⟩):=by walk_at"k"
end
end
section
variable{an:Bool}
theorem IA{f:Nat->Option Nat}{s:Str}{tl tl':List (Nm×V)}(h4:f 4=some 4)(h5:f 5=some 5)(k:FrR f (tF an s tl) tl'):FrR f (tF an s tl) (tF an s tl'):=
 .k rfl .b (.k rfl .s (.k rfl (.o h4) (.k rfl (.o h5) k)))
theorem vD{f:Nat->Option Nat}{s:Str}{p:List Int×Int}{fp bp:List dZ}{tl tl':List (Nm×V)}{os H':List O}(h:∀i,i<6->f i=some i)(k:FrR f (tF an s tl) tl')(ho:ROs f os H'):ROs f (j5 an s tl p fp bp os) (j5 an s tl' p fp bp H'):=
 .k (.f (IA (h 4 ()) (h 5 ()) k)) (.k (.l (.ints _)) (.k (.l (.k (.o (h 1 ())) (.k .i .z))) (.k .ref (.k (.l (.parts (h 3 ()) _)) (.k (.l (.parts (h 3 ()) _)) ho)))))
theorem vI{n:Nat}:∀i,i<n->fb (List.range n) i=some i:=λi h=>qd h
theorem i3{n:Nat}(h:3<n):fb (List.range n) 3=some 3:=qd h
theorem Dk{b:Bs}{env:Env}{A:Around}{E:Value->Shared->Prop}(G:dI b){sb:Str}{p:List Int×Int}{fp bp:List dZ}{x:Stmt}{s:Shared}{ρ:List Addr}{Q:Flow->Shared->Prop}(rm:ee A 40)(en:dE env 0 ρ)(ck:gI nmT env.scope De x)(R:(C b).R ρ (j5 an sb [] p fp bp []) s.heap)
  (q:∀ρ' s',(C b).Rs ρ (j5 an sb [] p fp bp []) s ρ' (j5 an sb [(cU,d6 3 (.lf .suc))] p fp bp []) s'->Q .next s'):wpAny (C b).M A (exec x env) Q E s:=by
 refine jJ G (KV _ _ 0 an sb (fg p.1) (gM 1 p.2) _ _) trivial rfl (rm.less ()) en ck R λρ1 s1 fl r1 v1=>?_;cases v1;have T:dg (C b) 6 (fb (List.range 6)) (j5 an sb [(cU,.tup [.str false gz])] p fp bp []) (·=j5 an sb [(cU,d6 3 (.lf .suc))] p fp bp []):=
  dg.sel (I':=j5 an sb [(cU,.tup [.str false gz])] p fp bp []) rfl () (fj rfl) (vD vI (.k rfl (.t (.k .s .z)) .z) .z)
 obtain⟨ρ2,σ2,rfl,r2,_⟩:=eR.tell (c:=C b) r1 T (ao 6) R.len;exact q ρ2 s1 r2
abbrev I1:Sk Stmt:=.for_ (.tgt dU) (.sub (.loc gY) (.slc .no .no (.opt (.bin (.cst (.int 0)) .Sub (.cst (.int 1)))))) (.l [.x HO])
abbrev zF:Sk Stmt:=.for_ (.tgt dU) (.m (.loc gV)) (.l [.x HN])
end
nonrec theorem Fn{b:Bs}{env:Env}{A:Around}{E:Value->Shared->Prop}{an:Bool}{sb:Str}{p:List Int×Int}{fp bp:List dZ}{x:Stmt}{ρ:List Addr}{Q:Flow->Shared->Prop}(G:dI b){s:Shared}(rm:ee A 40)(en:dE env 0 ρ)(ck:fE env.scope I1 x)(hfp:fp.length<=100)(R:(C b).R ρ (j5 an sb [(cU,d6 3 (.lf .suc))] p fp bp []) s.heap)(q:∀ρ' s',(C b).Rs ρ (j5 an sb [(cU,d6 3 (.lf .suc))] p fp bp []) s ρ' (j5 an sb [(cU,d6 3 (fh fp))] p fp bp []) s'->Q .next s'):wpAny (C b).M A (exec (bE I1 x) env) Q E s:=by
 obtain⟨lo,⟨⟨lf,df⟩,_⟩,cx,_⟩:=ck;refine sL (c:=C b) (N2:=.lst 6 (fp.reverse.map (db 3))) (k:=7) (λj τ=>τ=j5 an sb [(cU,d6 3 ((fp.reverse.take j).foldl (λn p=>.cat (.lf (.part p)) n) (.lf .suc)))] p fp bp [.list true (fp.reverse.map (db 3))]) R rm.handled (by decide:6<=7) (λI=>rfl) ?_ (λi xs e=>by cases e;decide) (λj τ e=>by subst e;exact⟨true,rfl⟩) ?_ ?_
 .refine oh (hs:=λI I=>⟨_,rfl⟩) (fY G (fi:=0) (v:=.obj 4) rfl rfl en lf df R λy vy=>?_)
  refine jM (jM (pP (cQ (aR (aR (sub_int ?_))))));obtain⟨D,hD,rfl⟩:=vy;rw[<-dP] at hD;obtain⟨z',n,ho,vr⟩:=R.at hD (show nth (j5 an sb [(cU,d6 3 (.lf .suc))] p fp bp []) 4=some (.list true (fp.map (db 3))) from rfl);have lz:z'.length=fp.length:=by have:=vr.length;rw[af] at this;exact this
  refine⟨D,z',none,none,some (-1),rfl,⟨_,ho,rfl,n,rfl⟩,by omega,.none,.none,.int _ _,by simp,λh' kp e=>?_⟩;have ep:slicePick z'.toArray none none (some (-1))=z'.reverse.toArray:=krv_pick z'.toArray;rw[ep] at e;generalize hz:({s with toks:=s.toks+1+1+1}:Shared).heap.objs.size+1=D1 at e;have eD:D1=s.heap.objs.size+1:=hz.symm;have fD:s.heap.get? D1=none:=by
   cases q:s.heap.get? D1 with
   |none=>rfl
   |some o=>have:=ay q;rw[eD] at this;exact absurd this (cF.mpr (au _))
  have r1:(C b).Rs ρ (j5 an sb [(cU,d6 3 (.lf .suc))] p fp bp []) s (ρ++[D1]) (j5 an sb [(cU,d6 3 (.lf .suc))] p fp bp []++[.list true (fp.reverse.map (db 3))]) {{s with toks:=s.toks+1+1+1} with heap:=h'}:=
   eR.pushC (o:=.list true (fp.reverse.map (db 3))) R kp (λx m=>by cases aj.mp m;exact fD) ⟨z'.reverse,0,e,by rw[List.map_reverse];exact(vr.up (.app _ _) (.of_keeps kp)).rev⟩ rfl rfl (by
    have:=ay e;rw[eD] at this;exact aZ (bw (au _) this))
  refine wpAny_pyIter_list (items:=z'.reverse.toArray) ⟨_,e,rfl,0,rfl⟩ ?_;have k2:∀b o,h'.get? b=some o->(h'.push {cls:=.type "list_iterator",data:=.fields #[.ref D1,.int 0 0]}).get? b=some o:=λb o e=>ae _ e;have eN:nth (ρ++[D1]) 6=some D1:=by have:=gr ρ D1;rw[R.len] at this;exact this
  refine⟨_,ρ++[D1],_,rfl,r1.trans (eR.more0 r1.rel k2 rfl rfl),⟨D1,eN,_,aB _ rfl,rfl,rfl⟩,λm=>?_,?_,rfl⟩
  .obtain⟨o,e⟩:=r1.rel.there m
   exact absurd (ay e) (bD _)
  .by_cases m:h'.objs.size∈dA ρ (j5 an sb [(cU,d6 3 (.lf .suc))] p fp bp [])
   .exact .inr m
   .cases e:s.heap.get? h'.objs.size with
    |none=>exact .inl rfl
    |some o=>exact absurd (ay (kp _ o e)) (bD _)
 .rintro j τ v ρ' s' w E' rfl hv r vw
  obtain⟨pt,hp,rfl,_⟩:=kN (db 3) hv;generalize hN:(fp.reverse.take j).foldl (λn p=>Nd.cat (.lf (.part p)) n) (.lf .suc)=N at r;obtain⟨_,_,k2⟩:=d7 (c:=C b) G.X (show gW ⟨j5 an sb [(cU,d6 3 N)] p fp bp [.list true (fp.reverse.map (db 3))],[],[]⟩ 0 dU (db 3 pt)=some ⟨j5 an sb [(cU,d6 3 N),(dU,db 3 pt)] p fp bp [.list true (fp.reverse.map (db 3))],[],[]⟩ from rfl);refine k2 A env s' ρ' w _ E' (en.grow r.grow) lo r.rel vw λs1 r1=>?_;refine ak (jJ G (Ja _ _ 0 an sb (fg p.1) (gM 1 p.2) _ _ _ (d6 3 N) (db 3 pt)) trivial rfl (rm.less ()) (en.grow (r.trans r1).grow) cx r1.rel λρ2 s2 fl r2 v2=>?_);cases v2;refine aM ⟨rfl,ρ2,_,fb (List.range 7),r1.trans r2,?_⟩;have e:(fp.reverse.take (j+1)).foldl (λn p=>Nd.cat (.lf (.part p)) n) (.lf .suc)= .cat (.lf (.part pt)) N:=by
   have h1:fp.reverse[j]?=some pt:=by rw[<-dP];exact hp
   rw[List.take_add_one,h1,Option.toList_some,List.foldl_append,hN];rfl
  rw[e];exact dg.sel (I':=j5 an sb [(cU,.tup [.str false fQ,db 3 pt,d6 3 N]),(dU,db 3 pt)] p fp bp [.list true (fp.reverse.map (db 3))]) rfl () (fj rfl)
   (vD (λi hi=>vI (n:=7) i (by omega)) (.k rfl (.t (.k .s (.k (.part (i3 (n:=7) ()) pt) (.k (.nd (i3 (n:=7) ()) N) .z)))) .z) (.k (.l (.parts (i3 (n:=7) ()) _)) .z))
 .rintro τ ρ' s' rfl r
  have hL:fp.reverse.take (qX.lst 6 (fp.reverse.map (db 3))).len=fp.reverse:=by
   show fp.reverse.take (fp.reverse.map (db 3)).length=_;rw[af,cG]
  rw[hL,show fp.reverse.foldl (λn p=>Nd.cat (.lf (.part p)) n) (.lf .suc)=fh fp from by rw[List.foldl_reverse];rfl] at r;have T:dg (C b) 6 (fb (List.range 6)) (j5 an sb [(cU,d6 3 (fh fp))] p fp bp [.list true (fp.reverse.map (db 3))]) (·=j5 an sb [(cU,d6 3 (fh fp))] p fp bp []):=
   dg.sel (I':=j5 an sb [(cU,d6 3 (fh fp))] p fp bp []) rfl () (fj rfl) (vD vI (.k rfl (.nd (i3 (n:=6) ()) _) .z) .z)
  obtain⟨ρ2,σ2,rfl,r2,_⟩:=eR.tell (c:=C b) r T (ao 6) R.len;exact q ρ2 s' r2
nonrec theorem BA{b:Bs}{env:Env}{A:Around}{E:Value->Shared->Prop}{an:Bool}{sb:Str}{p:List Int×Int}{fp bp:List dZ}{x:Stmt}{s:Shared}{ρ:List Addr}{Q:Flow->Shared->Prop}(G:dI b)(rm:ee A 40)(en:dE env 0 ρ)(ck:fE env.scope zF x)(R:(C b).R ρ (j5 an sb [(cU,d6 3 (fh fp))] p fp bp []) s.heap)(q:∀ρ' s',(C b).Rs ρ (j5 an sb [(cU,d6 3 (fh fp))] p fp bp []) s ρ' (j5 an sb [(cU,d6 3 (fu fp bp))] p fp bp []) s'->Q .next s'):wpAny (C b).M A (exec (bE zF x) env) Q E s:=by
 obtain⟨lo,ci,cx,_⟩:=ck;refine sL (c:=C b) (N2:=.lst 5 (bp.map (db 3))) (k:=6) (λj τ=>τ=j5 an sb [(cU,d6 3 ((bp.take j).foldl (λn p=>.cat n (.lf (.part p))) (fh fp)))] p fp bp []) R rm.handled (by decide:6<=6) (λv=>mR ci (by intro z;cases z) env v) ?_ (λi xs e=>by cases e;decide) (λj τ e=>by subst e;exact⟨true,rfl⟩) ?_ ?_
 .have it0:=kS (c:=C b) (r:=0) (orc:=fe []) (n:=20) (fi:=0) (i:=5) (xs:=bp.map (db 3)) (y:=true) G.X G.F (dD G rfl) (KF (Ct b 0) (Lt b 0) 0 an sb (fg p.1) (gM 1 p.2) (.list true (fp.map (db 3))) (.list true (bp.map (db 3))) (d6 3 (fh fp))) (λI m=>by cases m) rfl
  exact it0 A env _ s ρ _ E (rm.less (show 20+0<=40 by decide)) en ci R (λI I e=>by cases e) λρ1 s1 ge r1 x1 n1 f1=>⟨ge,ρ1,_,rfl,r1,x1,n1,f1,rfl⟩
 .rintro j τ v ρ' s' w E' rfl hv r vw
  obtain⟨pt,hp,rfl,_⟩:=kN (db 3) hv;generalize hN:(bp.take j).foldl (λn p=>Nd.cat n (.lf (.part p))) (fh fp)=N at r;obtain⟨_,_,k2⟩:=d7 (c:=C b) G.X (show gW ⟨j5 an sb [(cU,d6 3 N)] p fp bp [],[],[]⟩ 0 dU (db 3 pt)=some ⟨j5 an sb [(cU,d6 3 N),(dU,db 3 pt)] p fp bp [],[],[]⟩ from rfl);refine k2 A env s' ρ' w _ E' (en.grow r.grow) lo r.rel vw λs1 r1=>?_;refine ak (jJ G (Jz _ _ 0 an sb (fg p.1) (gM 1 p.2) _ _ (d6 3 N) (db 3 pt)) trivial rfl (rm.less ()) (en.grow (r.trans r1).grow) cx r1.rel λρ2 s2 fl r2 v2=>?_);cases v2;refine aM ⟨rfl,ρ2,_,fb (List.range 6),r1.trans r2,?_⟩;have e:(bp.take (j+1)).foldl (λn p=>Nd.cat n (.lf (.part p))) (fh fp)= .cat N (.lf (.part pt)):=by
   have h1:bp[j]?=some pt:=by rw[<-dP];exact hp
   rw[List.take_add_one,h1,Option.toList_some,List.foldl_append,hN];rfl
  rw[e];exact dg.sel (I':=j5 an sb [(cU,.tup [.str false fQ,d6 3 N,db 3 pt]),(dU,db 3 pt)] p fp bp []) rfl () (fj rfl)
   (vD vI (.k rfl (.t (.k .s (.k (.nd (i3 (n:=6) ()) N) (.k (.part (i3 (n:=6) ()) pt) .z)))) .z) .z)
 .rintro τ ρ' s' rfl r
  have hL:bp.take (qX.lst 5 (bp.map (db 3))).len=bp:=by
   show bp.take (bp.map (db 3)).length=_;rw[af,cG]
  rw[hL] at r;exact q ρ' s' r
def EP:MS:=.asgT [kF,iJ] (.call (.glb yk) [.loc gY,.loc gV,.loc cS,.loc cT])
def gA(n:Nat):ii->V
 | .none _=>.tup [.str true jo]
 | .round _=>.tup [.str true jT,.obj (n+1)]
 | .met j e _=>.tup [.str true lX,.int true (j:Int),.int true (e:Int),.obj (n+1)]
theorem Hf(n:Nat)(y:ii):Jg n y= .tup [gA n y,.obj n]:=by cases y<;>rfl
abbrev DH:Sk Stmt:=.asg (.tgt dJ) (An 200 60)
section
variable(sp:jA) (sl:jz) (r:Nat)
theorem Lz(an:Bool)(s:Str)(i z f bh ah:O)(N L W:V)(tl:List O):Option.map qi (ju (Pg (fe [671]) sp sl r) (ev (Pg (fe [671]) sp sl r) 20) EP 0 ⟨.frame (tF an s [(cU,N),(dJ,L)])::i::z::cY::f::bh::[],[.k (.tup [W,.obj 6]) (.frame (tF an s [(cU,N),(dJ,L)])::i::z::cY::f::bh::ah::tl)],[]⟩)=
  some (.next,.frame (tF an s [(cU,N),(dJ,L),(kF,W),(iJ,.obj 6)])::i::z::cY::f::bh::ah::tl,[sp 671 [.obj 4,.obj 5,.str true s,.bool an] (.frame (tF an s [(cU,N),(dJ,L)])::i::z::cY::f::bh::[]) (.tup [W,.obj 6]) (.frame (tF an s [(cU,N),(dJ,L)])::i::z::cY::f::bh::ah::tl)]):=by walk_at"k"
end
section
variable{an:Bool} {sb:Str} {fp bp:List dZ}
theorem CJ{b:Bs}{env:Env}{A:Around}{E:Value->Shared->Prop}(G:dI b){N:V}{p:List Int×Int}{x:Stmt}{s:Shared}{ρ:List Addr}{Q:Flow->Shared->Prop}(rm:ee A 40)(en:dE env 0 ρ)(ck:fE env.scope DH x)(hb:ie p)(R:(C b).R ρ (j5 an sb [(cU,N)] p fp bp []) s.heap)(cv:gO env ρ (j5 an sb [(cU,N)] p fp bp []) s.heap ey 2)
  (q:∀ρ' s',(C b).Rs ρ (j5 an sb [(cU,N)] p fp bp []) s ρ' (j5 an sb [(cU,N),(dJ,.int true ((200+(take 60 p).1.toNat:Nat):Int))] (take 60 p).2 fp bp []) s'->Q .next s'):wpAny (C b).M A (exec (bE DH x) env) Q E s:=by
 obtain⟨hl,ce⟩:=ck;have hm:(200:Int)+(take 60 p).1=((200+(take 60 p).1.toNat:Nat):Int):=by
  have:=(jG (lim:=60) () p).1;omega
 refine cA (wJ G (rm.less ()) en ce hb () R cv λρ1 s1 y r1 v1=>?_) (gy rfl _ _ _);rw[hm] at v1;obtain⟨_,_,k2⟩:=d7 (c:=C b) G.X (show gW ⟨j5 an sb [(cU,N)] (take 60 p).2 fp bp [],[],[]⟩ 0 dJ (.int true ((200+(take 60 p).1.toNat:Nat):Int))=some ⟨j5 an sb [(cU,N),(dJ,.int true ((200+(take 60 p).1.toNat:Nat):Int))] (take 60 p).2 fp bp [],[],[]⟩ from rfl);exact k2 A env s1 ρ1 y _ E (en.grow r1.grow) hl r1.rel v1 λs2 r2=>q ρ1 s2 (r1.trans r2)
theorem K2{b:Bs}(G:dI b){tl:List (Nm×V)}{p:List Int×Int}{x:ii×List LE}(hs:sb.length<=8)(hf:fp.length<=8)(hb:bp.length<=8)(hx:wq sb fp bp an=x):
  Ct b 120 671 [.obj 4,.obj 5,.str true sb,.bool an] (j5 an sb tl p fp bp []) (.tup [gA 6 x.1,.obj 6]) (j5 an sb tl p fp bp (.list true (x.2.map d4)::wF x.1)):=by
 have q:=fJ.frame (l:=[3,4,5]) (os:=j5 an sb tl p fp bp []) (I':=[cY,.list true (fp.map (db 3)),.list true (bp.map (db 3))]) (news:=[cY,.list true (fp.map (db 3)),.list true (bp.map (db 3)),.list true (x.2.map d4)]++wF x.1) (vs:=[.obj 4,.obj 5,.str true sb,.bool an]) (w:=Jg 6 x.1) rfl (Ls G (λI=>.ref) hs hf hb hx) rfl ()
  (.k .ref (.k (.l (.parts (r:=3) (r':=0) rfl _)) (.k (.l (.parts (r:=3) (r':=0) rfl _)) .z))) (.k (.o rfl) (.k (.o rfl) (.k .s (.k .b .z))))
  (.k .ref (.k (.l (.parts (r:=0) (r':=3) rfl _)) (.k (.l (.parts (r:=0) (r':=3) rfl _)) (.k (.l (.les _)) (by cases x.1 with | none w=>exact .z | round rs=>exact .k (.l (.les _)) .z | met j e ns=>exact .k (.l (.nms _)) .z)))))
  (by cases x.1 with | none w=>exact .t (.k (.t (.k .s .z)) (.k (.o rfl) .z)) | round rs=>exact .t (.k (.t (.k .s (.k (.o rfl) .z))) (.k (.o rfl) .z)) | met j e ns=>exact .t (.k (.t (.k .s (.k .i (.k .i (.k (.o rfl) .z))))) (.k (.o rfl) .z)))
 rw[<-Hf];exact q
theorem E0{b:Bs}{env:Env}{A:Around}{E:Value->Shared->Prop}(G:dI b){N L:V}{p:List Int×Int}{x:Stmt}{y:ii×List LE}{s:Shared}{ρ:List Addr}{Q:Flow->Shared->Prop}(rm:ee A 150)(en:dE env 0 ρ)(ck:gI nmT env.scope EP x)(hs:sb.length<=8)(hf:fp.length<=8)(hb:bp.length<=8)(hy:wq sb fp bp an=y)(R:(C b).R ρ (j5 an sb [(cU,N),(dJ,L)] p fp bp []) s.heap)
  (q:∀ρ' s',(C b).Rs ρ (j5 an sb [(cU,N),(dJ,L)] p fp bp []) s ρ' (j5 an sb [(cU,N),(dJ,L),(kF,gA 6 y.1),(iJ,.obj 6)] p fp bp (.list true (y.2.map d4)::wF y.1)) s'->Q .next s'):wpAny (C b).M A (exec x env) Q E s:=by
 refine jJ G (Lz ..) ⟨K2 G hs hf hb hy,N4⟩ () (rm.less ()) en ck R λρ1 s1 fl r1 v1=>?_;cases v1;exact q ρ1 s1 r1
end
/-! texts that are texts of the model's language -/
def q7(s:Str):Prop:=∀c∈s.cps.toList,c<0x110000
theorem q7.ok{s:Str}(h:q7 s):PyData.strOk s:=by
 unfold PyData.strOk;rw[Array.all_eq_true'];intro c m;have:=h c (by simpa using m)
 simpa using this
theorem q7.sub{s t:Str}(h:q7 s)(k:∀c∈t.cps.toList,c∈s.cps.toList):q7 t:=λc m=>h c (k c m)
theorem q7.cut{s:Str}(h:q7 s)(a e:Nat):q7 (cut s a e):=by
 refine h.sub λc m=>?_;unfold Internal.cut Txt.slice at m
 split at m
 .exact m
 .simp only[List.mem_filterMap] at m
  obtain⟨i,_,e⟩:=m;exact Array.mem_toList_iff.mpr (Array.mem_of_getElem? e)
theorem B1(k:Int):q7 (yW k):=by
 intro c m;have m:c∈[lW.cps.getD k.toNat 0]:=m;cases aj.mp m;have:∀n,lW.cps.getD n 0<0x110000:=λn=>by
  match n with
  |0=>decide
  |1=>decide
  |n+2=>exact(by decide:(0:Nat)<0x110000)
 exact this _
theorem rR:∀n p,∀y∈(dm n p).1,q7 y
 |0,_,_,m=>by cases m
 |n+1,p,y,m=>by
  rcases bj.mp (show y∈(dm n p).1++[_] from m) with m | m
  .exact rR n p y m
  .cases aj.mp m;exact B1 _
theorem At:∀(l:List Str) (a:Array Nat),(∀c∈a.toList,c<0x110000)->(∀y∈l,q7 y)->∀c∈(l.foldl (λB' p=>B'++(⟨#[]⟩:Str).cps++p.cps) a).toList,c<0x110000
 |[],a,ha,_=>ha
 |y::l,a,ha,h=>by
  refine At l _ (λc m=>?_) λz mz=>h z (.tail _ mz);rw[Array.toList_append,Array.toList_append] at m;rcases bj.mp m with m | m
  .rcases bj.mp m with m | m
   .exact ha c m
   .cases m
  .exact h y (.head _) c m
theorem GT{l:List Str}(h:∀y∈l,q7 y):q7 (Txt.join ⟨#[]⟩ l):=by
 cases l with
 |nil=>intro c m;cases m
 |cons x l=>exact At l x.cps (h x (.head _)) λz mz=>h z (.tail _ mz)
def CG:LE->Prop
 | .at _=>True
 | .tx s=>q7 s
theorem rh{α:Type}{P:α->Prop}{l r:List α}(a:∀x∈l,P x)(b:∀x∈r,P x):∀x∈l++r,P x:=λx m=>(bj.mp m).elim (a x) (b x)
theorem sY{α:Type}{P:α->Prop}{l:List α}{y:α}(a:∀x∈l,P x)(b:P y):∀x∈l++[y],P x:=rh a λI m=>aj.mp m▸b
def ML(_:List dZ)(_:Nat)(_:Bool)(ns:List Str)(lg:List LE)(x:fP×List LE):Prop:=(∀y∈ns,q7 y)->(∀x∈lg,CG x)->(∀y∈x.2,CG y)/\∀a' N0 f',x.1= .ok a' N0 f'->∀y∈N0,q7 y
theorem Dy(s:Str)(hs:q7 s)(ps:List dZ)(a:Nat)(f:Bool)(ns:List Str)(lg:List LE):ML ps a f ns lg (d3 s ps a f ns lg):=by
 refine oX (P:=ML) (λI I I I hn hl=>⟨hl,λI I I e=>?_⟩) (λI I I I I I h hn hl=>h hn (sY hl trivial)) (λI I I I I I I I I hl=>⟨hl,λI I I e=>by injection e⟩) (λI I I I f I I I I I hl=>⟨hl,λI I I e=>by cases f<;>injection e⟩) (λm I I a I I I e I I I h hn hl=>?_) ps a f ns lg
 .injection e with _ e2
  exact e2▸hn
 .cases m with
  |bare=>exact h hn hl
  |now=>exact h hn (sY hl (hs.cut a e))
  |later=>exact h (sY hn (hs.cut a e)) hl
def LB:ii->Prop
 | .none _=>True
 | .round rs=>∀x∈rs,CG x
 | .met _ _ ns=>∀y∈ns,q7 y
theorem CR(s:Str)(hs:q7 s)(fp bp:List dZ):∀(n j:Nat) (lg:List LE),(∀x∈lg,CG x)->LB (mc s fp bp n j lg).1/\∀x∈(mc s fp bp n j lg).2,CG x
 |0,_,lg,h=>⟨N4,h⟩
 |n+1,j,lg,h=>by
  have q:=Dy s hs fp j false [] lg (λI m=>by cases m) h;rw[kU];cases c1:d3 s fp j false [] lg with
  |mk y L'=>
   rw[c1] at q;cases y with
   |over=>exact⟨N4,q.1⟩
   |no=>exact CR s hs fp bp n (j+1) L' q.1
   |ok a ns f=>
    dsimp only;have q2:=Dy s hs bp a false [] [] (λI m=>by cases m) (λI m=>by cases m);cases c2:d3 s bp a false [] [] with
    |mk z rs=>
     rw[c2] at q2;cases z with
     |over=>exact⟨N4,rh q.1 q2.1⟩
     |no=>exact⟨q2.1,q.1⟩
     |ok e ms g=>exact⟨rh (q.2 _ _ _ rfl) (q2.2 _ _ _ rfl),rh q.1 q2.1⟩
/-! values as data -/
mutual
noncomputable def dV:V->PyData
 | .bool b=>.bool b
 | .int _ i=>.int i
 | .str _ s=>.str s
 | .tup vs=>.tuple (CE vs)
 |_=>.none
noncomputable def CE:List V->List PyData
 |[]=>[]
 |v::vs=>dV v::CE vs
end
mutual
noncomputable def uj:V->Bool
 | .none=>true
 | .bool _=>true
 | .int _ _=>true
 | .str _ _=>true
 | .tup vs=>p9 vs
 |_=>false
noncomputable def p9:List V->Bool
 |[]=>true
 |v::vs=>uj v&&p9 vs
end
mutual
theorem ou{ρ:List Addr}{h:Heap}:∀{v:V} {y:Value},uj v=true->dH ρ h v y->Reads h y (dV v) []
 | .none,_,_,r=>by cases r;exact .none
 | .bool b,_,_,r=>by cases r;exact .bool b
 | .int _ i,_,_,r=>by obtain⟨t,rfl⟩:=r;exact .int i t
 | .str _ s,_,_,r=>by obtain⟨t,rfl⟩:=r;exact .str s t
 | .tup vs,_,f,r=>by
  obtain⟨a,z',rfl,⟨o,ho,hc,n,hd⟩,z⟩:=r;exact reads_tuple_at ho hc hd (rW f z)
 | .obj _,_,f,_=>by injection f
 | .val _,_,f,_=>by injection f
 | .bi _,_,f,_=>by injection f
theorem rW{ρ:List Addr}{h:Heap}:∀{vs:List V} {ys:List Value},p9 vs=true->dy ρ h vs ys->ReadsAll h ys (CE vs) []
 |[],_,_,r=>by cases r;exact .nil
 |v::vs,_,f,r=>by
  obtain⟨y,ys,rfl,r1,r2⟩:=r;have f:(uj v&&p9 vs)=true:=f;obtain⟨f1,f2⟩:=cW f;exact readsAll_cons_val (ou f1 r1) (rW f2 r2)
end
theorem vP{α:Type}(g:α->V):∀l:List α,CE (l.map g)=l.map λx=>dV (g x)
 |[]=>rfl
 |x::l=>az (dV (g x)::·) (vP g l)
theorem i5{α:Type}(g:α->V)(h:∀x,uj (g x)=true):∀l:List α,p9 (l.map g)=true
 |[]=>rfl
 |x::l=>a9.mpr ⟨h x,i5 g h l⟩
theorem ri(x:LE):uj (d4 x):=by cases x<;>rfl
theorem FN(x:Str):uj (nJ x):=rfl
theorem vd{α:Type}(g:α->PyData):∀l:List α,(∀x∈l,(g x).canLay0=true)->PyData.canLayAll0 (l.map g)=true
 |[],_=>rfl
 |x::l,h=>a9.mpr ⟨h x (.head _),vd g l λy m=>h y (.tail _ m)⟩
theorem qA{α:Type}{k:Nat}(g:α->PyData):∀l:List α,(∀x∈l,(g x).depth<=k)->PyData.depthAll (l.map g)<=k
 |[],_=>aJ _
 |x::l,h=>Nat.max_le.mpr ⟨h x (.head _),qA g l λy m=>h y (.tail _ m)⟩
theorem DE{l:List Nat}(h:∀c∈l,c<0x110000):PyData.strOk ⟨l.toArray⟩:=q7.ok (s:=⟨l.toArray⟩) λc m=>h c (by simpa using m)
theorem Fe:PyData.strOk sK:=DE (l:=[75]) ()
theorem Jt{a b:PyData}(h:a.canLay0)(k:b.canLay0):(PyData.tuple [a,b]).canLay0=true:=a9.mpr ⟨h,a9.mpr ⟨k,rfl⟩⟩
theorem Jy{x:LE}(h:CG x):(dV (d4 x)).canLay0=true:=by
 cases x with
 |«at» n=>exact Jt Fe rfl
 |tx s=>exact Jt Fe (q7.ok h)
theorem D2(x:LE):(dV (d4 x)).depth<=1:=by cases x<;>exact ao 1
theorem I8{x:Str}(h:q7 x):(dV (nJ x)).canLay0=true:=Jt Fe h.ok
theorem Db(x:Str):(dV (nJ x)).depth<=1:=ao 1
theorem Gx:∀j,j<=2->j≠2->∃bb,[Value.bool true,.bool false].toArray[j]?=some (.bool bb)
 |0,_,_=>⟨_,rfl⟩
 |1,_,_=>⟨_,rfl⟩
 |2,_,h=>absurd rfl h
 |n+3,h,_=>absurd h (by omega)
theorem Du{c:Cx}{env:Env}{A:Around}{E:Value->Shared->Prop}{s:Shared}{ρ:List Addr}{σ:List O}{y:Str}{py pos p1 p2 p3:Pos}{k1 k2 k3:Nat}{body:List Stmt}{Q:Flow->Shared->Prop}(R:c.R ρ σ s.heap)(hh:A.handled=none)
  (turn:∀(bb:Bool) ρ' s' E',c.Rs ρ σ s ρ' σ s'->wpAny c.M A (storeName env y (.bool bb)) (λI s1=>wpAny c.M A (execs body env) (λfl s2=>fl= .next/\∃ρ2 τ2 g,c.Rs ρ' σ s' ρ2 τ2 s2/\dg c σ.length g τ2 (·=σ)) E' s1) E' s')
  (fin:∀ρ' s',c.Rs ρ σ s ρ' σ s'->Q .next s'):wpAny c.M A (exec (.For (.Name y py) (.Tuple [.Constant (.bool true) k1 p1,.Constant (.bool false) k2 p2] k3 p3) body [] pos) env) Q E s:=by
 have big:=dv;refine wpAny_For (cN (aF (wpAny_Constant_bool (aF (wpAny_Constant_bool (aN ⟨by show 2<=_;omega,?_⟩)))))) (λI=>rfl);generalize hT:s.heap.push {cls:=.type "tuple",data:=.seq [Value.bool true,.bool false].toArray}=h1;have et:h1.get? s.heap.objs.size=some {cls:=.type "tuple",data:=.seq [Value.bool true,.bool false].toArray}:=by rw[<-hT];exact aB _ rfl
 have k1':∀b o,s.heap.get? b=some o->h1.get? b=some o:=λb o e=>by rw[<-hT];exact ae _ e
 have ft:s.heap.get? s.heap.objs.size=none:=fA s;refine wpAny_pyIter_tuple (items:=[Value.bool true,.bool false].toArray) (s:={s with heap:=h1}) ⟨_,et,rfl,0,rfl⟩ ?_;have fi:s.heap.get? h1.objs.size=none:=by
  cases q:s.heap.get? h1.objs.size with
  |none=>rfl
  |some o=>exact absurd (ay (k1' _ o q)) (bD _)
 have k2':∀b o,s.heap.get? b=some o->(h1.push {cls:=.type "tuple_iterator",data:=.fields #[.ref s.heap.objs.size,.int 0 0]}).get? b=some o:=λb o e=>ae _ (k1' b o e);have nf:∀{a:Addr} {ρ':List Addr} {s':Shared},s.heap.get? a=none->a∉dA ρ σ:=λ{a} I I e m=>by
  obtain⟨o,q⟩:=R.there m;rw[e] at q;cases q
 have r0:c.Rs ρ σ s ρ σ {s with heap:=h1.push {cls:=.type "tuple_iterator",data:=.fields #[.ref s.heap.objs.size,.int 0 0]}}:=eR.more0 R k2' rfl rfl;refine codeAny_forLoop_any (λm s'=>∃j ρ',m=2 - j/\j<=2/\c.Rs ρ σ s ρ' σ s'/\s'.heap.IsTupleIter h1.objs.size s.heap.objs.size j/\s'.heap.IsTuple s.heap.objs.size [Value.bool true,.bool false].toArray/\h1.objs.size∉dA ρ' σ/\s.heap.objs.size∉dA ρ' σ) (λm s' hI=>?_) 2
  ⟨0,ρ,rfl,by decide,r0,⟨_,aB _ rfl,rfl,rfl⟩,⟨_,ae _ et,rfl,0,rfl⟩,nf (ρ':=ρ) (s':=s) fi,nf (ρ':=ρ) (s':=s) ft⟩
 obtain⟨j,ρ1,em,hj,r1,it1,t1,n1,n2⟩:=hI;rw[em];have ne:s.heap.objs.size≠h1.objs.size:=λz=>by rw[z] at et;exact absurd (ay et) (bD _)
 obtain⟨oI,hoI,hcI,hdI⟩:=id it1;have hnI:oI.cls≠ .type "tuple":=by rw[hcI];exact λq=>absurd (cq q) ()
 by_cases hj2:j=2
 .refine wpAny_pyNext_tuple_end hh it1 t1 (by rw[hj2];rfl) λh' xb=>?_
  refine aM (fin ρ1 _ (r1.off R hoI hnI n1 (.inl fi) (λb o hb e=>xb b o hb e) rfl rfl))
 .obtain⟨bb,hbb⟩:=Gx j hj hj2
  refine wpAny_pyNext_tuple_item it1 t1 hbb λh' it2 sb=>?_;have kp:∀b o,b≠h1.objs.size->s'.heap.get? b=some o->h'.get? b=some o:=λb o hb e=>by rw[sb.2 b hb];exact e
  have r2:c.Rs ρ σ s ρ1 σ {s' with heap:=h'}:=r1.off R hoI hnI n1 (.inl fi) kp rfl rfl;refine bV (a:=Unit.unit) rfl ?_;refine bN (aK (turn bb ρ1 {s' with heap:=h'} _ r2) (λI s3 h3=>aK h3 (λfl s4 h4=>?_) λI I z=>z) λI I z=>z);obtain⟨rfl,ρ4,τ4,g,r4,T⟩:=h4;obtain⟨ρ5,σ5,e5,r5,_,_,f5,_⟩:=eR.tell (c:=c) r4 T (ao _) r2.rel.len;obtain rfl:=e5.symm;obtain⟨ot,hot,hct,nt,hdt⟩:=t1;have keep:∀a o,h'.get? a=some o->a∉dA ρ1 σ->s4.heap.get? a=some o/\a∉dA ρ5 σ:=λa o e m=>⟨r5.keep a o e m,λm'=>by
   rcases r5.fresh a m' with z | z
   .exact m z
   .rw[show({s' with heap:=h'}:Shared).heap=h' from rfl,e] at z;cases z⟩
  obtain⟨oi,hoi,hci,hdi⟩:=it2;obtain⟨a1,a2⟩:=keep _ _ hoi n1;obtain⟨b1,b2⟩:=keep _ _ (kp _ _ ne hot) n2;exact⟨2 - (j+1),cL (Nat.lt_of_le_of_ne hj hj2) (aX j),j+1,ρ5,rfl,Nat.lt_of_le_of_ne hj hj2,r2.trans r5,⟨oi,a1,hci,hdi⟩,⟨ot,b1,hct,nt,hdt⟩,a2,b2⟩
def mU(an:Bool)(s:Str)(nd:Nd)(lim:Nat)(W:V)(tl:List (Nm×V)):List (Nm×V):=[(cT,.bool an),(cS,.str true s),(cU,d6 0 nd),(dJ,.int true (lim:Int)),(kF,W),(iJ,.obj 2)]++tl
abbrev lR(m:List (Nm×V))(ah c3:O)(tl:List O):List O:=cY:: .frame m::ah::c3::tl
def qN(x:l7×List LE×Nat):V:=match x with
 |(.met j e _,_,_)=>.tup [.str true lX,.int true (j:Int),.int true (e:Int),.obj 5]
 |(.nope _,_,_)=>.tup [.str true jo]
 |(.raised,_,st)=>.tup [.str true hY,.int true 22,.int true (st:Int)]
theorem B6(lim:Nat)(x:l7×List LE×Nat):Ei lim x= .tup [qN x,.obj 4]:=by
 obtain⟨y,lg,st⟩:=x;cases y<;>rfl
def Ab:MS:=.asgT [dN,eP] (.call (.glb oR) [.loc dR,.loc cU,.loc cS,.loc cT,.loc dJ])
def ux(nm:Nat->Str)(sc:Scope)(n:Nm):Prop:=sc.names.lookup (nm n)=some .local/\(nm n==("__debug__":Str))=false
theorem xE{nm:Nat->Str}{sc:Scope}{a:Nm}{ms:List ME}{es:List Expr}(h:fX nm sc (.loc a::ms) es):∃p r,es= .Name (nm a) p::r/\ux nm sc a/\fX nm sc ms r=true:=by
 obtain⟨x,r,e,d,h⟩:=fK _ _ h;obtain⟨p,rfl,k⟩:=zL d;exact⟨p,r,e,k,h⟩
theorem KT{nm:Nat->Str}{sc:Scope}{a b c d e:Nm}{es:List Expr}(h:fX nm sc [.loc a,.loc b,.loc c,.loc d,.loc e] es=true):∃p1 p2 p3 p4 p5,es=[.Name (nm a) p1,.Name (nm b) p2,.Name (nm c) p3,.Name (nm d) p4,.Name (nm e) p5]/\
  ux nm sc a/\ux nm sc b/\ux nm sc c/\ux nm sc d/\ux nm sc e:=by
 obtain⟨p1,r1,e1,k1,h⟩:=xE h;obtain⟨p2,r2,e2,k2,h⟩:=xE h;obtain⟨p3,r3,e3,k3,h⟩:=xE h;obtain⟨p4,r4,e4,k4,h⟩:=xE h;obtain⟨p5,r5,e5,k5,h⟩:=xE h;have e6:=jq _ _ h;exact⟨p1,p2,p3,p4,p5,by rw[e1,e2,e3,e4,e5,e6],k1,k2,k3,k4,k5⟩
nonrec theorem ye{b:Bs}{env:Env}{A:Around}{E:Value->Shared->Prop}{s:Shared}{ρ:List Addr}{l:List Env}{Q:Flow->Shared->Prop}(G:dI b)(XFc:XF (C b))(SF:oU (C b))(HF:mt (C b)){mk an:Bool}{sb:Str}{p q':Nd}{lim:Nat}{W:V}{lg:List LE}{c3:O}{mr:l7×List LE×Nat}{x:Stmt}(rm:ee A 210)(en:dE env 1 ρ)(ck:gI nmT env.scope Ab x)(hs:sb.length<=8)(hlim:lim<990)(hn:gb (.cat p q')<100)(h:qu mk sb (.cat p q') an lim mr)(hz:∀j e ns l t,mr=(.met j e ns,l,t)->ns.length<=1000)(hF:fw 4 (.frame (mU an sb (.cat p q') lim W [(dR,.bool mk)])))(h3:fw 4 c3)(R:(C b).R ρ (lR (mU an sb (.cat p q') lim W [(dR,.bool mk)]) (.list true (lg.map d4)) c3 []) s.heap)(fr:iZ (C b).h₀ l A ρ (lR (mU an sb (.cat p q') lim W [(dR,.bool mk)]) (.list true (lg.map d4)) c3 []) s.heap)(al:∀L∈l.filterMap (·.frame),L∈dA ρ (lR (mU an sb (.cat p q') lim W [(dR,.bool mk)]) (.list true (lg.map d4)) c3 []))(q:∀ρ' s',(C b).Rs ρ (lR (mU an sb (.cat p q') lim W [(dR,.bool mk)]) (.list true (lg.map d4)) c3 []) s ρ' (lR (mU an sb (.cat p q') lim W [(dR,.bool mk),(dN,qN mr),(eP,.obj 4)]) (.list true (lg.map d4)) c3 (ke mr)) s'->Q .next s'):wpAny (C b).M A (exec x env) Q E s:=by
 obtain⟨ts,k,pt,v',p',rfl,c0,nc,nt,c1⟩:=rM _ _ ck;obtain⟨f',as',pc,rfl,hnf,cf,ca⟩:=mF _ _ c1;obtain⟨pf,rfl,lf,df⟩:=ve _ _ cf;refine cC (bH (g8 (c:=C b) (st:=⟨_,[],[]⟩) G.X (n:=oR) (v:=.val (.ref 676)) rfl en lf df R λy vy=>?_)) (m6 nc _ _ _) (ky nt _);obtain⟨rfl,_⟩:=vy;have ca0:=ca;obtain⟨p1,p2,p3,p4,p5,rfl,⟨l1,e1⟩,⟨l2,e2⟩,⟨l3,e3⟩,⟨l4,e4⟩,l5,e5⟩:=KT ca;refine callWith_of (P:=λh=>(C b).K.In h) (fW (c:=C b) (pos:=pc) ca0) (keeps_K (show keepIn (C b).K (.ref 676)=true from ?_)) (gq ca0 ?_)
 .obtain⟨fd,bd,K,_⟩:=HF
  obtain⟨oc,od,osl,hf⟩:=K.at_;unfold keepIn;dsimp only;rw[hf]
 refine aF (fY G (fi:=1) (v:=.bool mk) rfl rfl en l1 e1 R λy1 v1=>?_);refine aF (fY G (fi:=1) (v:=d6 0 (.cat p q')) rfl rfl en l2 e2 R λy2 v2=>?_);refine aF (fY G (fi:=1) (v:=.str true sb) rfl rfl en l3 e3 R λy3 v3=>?_);refine aF (fY G (fi:=1) (v:=.bool an) rfl rfl en l4 e4 R λy4 v4=>?_);refine aF (fY G (fi:=1) (v:=.int true (lim:Int)) rfl rfl en l5 e5 R λy5 v5=>?_);refine aN ⟨G.X.In (h:=s.heap) R,cR ?_⟩;have h2:fw 4 (.list true (lg.map d4)):=λf I=>.l (.les _);refine GK G XFc SF HF hs hlim hn (y:=mr.1) (lg:=mr.2.1) (st:=mr.2.2) h (λj e ns he=>hz j e ns _ _ (Prod.ext he rfl)) hF h2 h3 A _ s ρ l _ E (rm.less (show 201<=210 by decide)) R fr al (.cons v1 (.cons v2 (.cons v3 (.cons v4 (.cons v5 .nil))))) λρ6 s6 y6 r6 v6=>?_;rw[B6] at v6;obtain⟨t,z',rfl,itt,vr⟩:=v6;obtain⟨q1,q2,q3⟩:=jH (c:=C b) c0;show wpAny (C b).M A (assign (.Tuple ts k pt) env (.ref t)) _ E s6;have e6:kl 1 [dN,eP] [qN mr,.obj 4] ⟨lR (mU an sb (.cat p q') lim W [(dR,.bool mk)]) (.list true (lg.map d4)) c3 (ke mr),[],[]⟩=some ⟨lR (mU an sb (.cat p q') lim W [(dR,.bool mk),(dN,qN mr),(eP,.obj 4)]) (.list true (lg.map d4)) c3 (ke mr),[],[]⟩:=rfl;refine wpAny_assign_Tuple rm.handled itt (by rw[q3,aI,vr.length];rfl) q2 λh' xb=>?_;have kp:∀b o,s6.heap.get? b=some o->h'.get? b=some o:=λb o e=>xb b o (bG (ay e)) e;have r7:=eR.more0 (s':={s6 with heap:=h'}) r6.rel kp rfl rfl;exact(i9 (c:=C b) G.X e6).2 A env _ ρ6 _ _ _ E (en.grow r6.grow) q1 r7.rel (vr.up (.refl _) (.of_keeps kp)) λs8 r8=>q ρ6 s8 ((r6.trans r7).trans r8)
def lH(y:ii)(z:O):O:=match y with
 | .round rs=>.list true (rs.map d4)
 | .met _ _ ns=>.list true (ns.map nJ)
 | .none _=>z
theorem JB{f:Nat->Option Nat}(h:f 3=some 3)(y:ii):RV f (gA 2 y) (gA 2 y):=by
 cases y with
 |none w=>exact .t (.k .s .z)
 |round rs=>exact .t (.k .s (.k (.o h) .z))
 |met j e ns=>exact .t (.k .s (.k .i (.k .i (.k (.o h) .z))))
section
variable{y:ii} {an:Bool} {nd:Nd} {lim:Nat} {b:Bs}
theorem zV{z:O}(h:fw 4 z):fw 4 (lH y z):=by
 cases y with
 |none w=>exact h
 |round rs=>exact λf I=>.l (.les _)
 |met j e ns=>exact λf I=>.l (.nms _)
theorem Ed{f:Nat->Option Nat}{s:Str}{tl tl':List (Nm×V)}(h:∀i,i<4->f i=some i)(k:FrR f (mU an s nd lim (gA 2 y) tl) tl'):FrR f (mU an s nd lim (gA 2 y) tl) (mU an s nd lim (gA 2 y) tl'):=
 .k rfl .b (.k rfl .s (.k rfl (.nd (h 0 ()) nd) (.k rfl .i (.k rfl (JB (h 3 ()) y) (.k rfl (.o (h 2 ())) k)))))
theorem Dl{s:Str}{bb:Bool}:fw 4 (.frame (mU an s nd lim (gA 2 y) [(dR,.bool bb)])):=λf h=>.f (Ed h (.k rfl .b .z))
theorem qy{sb:Str}{lg:List LE}{z:O}(hz:fw 4 z)(tl:List (Nm×V))(os:List O):
  dg (C b) 4 (fb [0,1,2,3]) (lR (mU an sb nd lim (gA 2 y) tl) (.list true (lg.map d4)) (lH y z) os) (·=lR (mU an sb nd lim (gA 2 y) []) (.list true (lg.map d4)) (lH y z) []):=by
 have h4:∀i,i<4->fb [0,1,2,3] i=some i:=by decide
 exact dg.sel (I':=[cY,.frame (mU an sb nd lim (gA 2 y) tl),.list true (lg.map d4),lH y z]) rfl () (fj rfl) (.k .ref (.k (.f (Ed h4 .z)) (.k (.l (.les _)) (.k (zV hz _ h4) .z))))
theorem rk{A:Around}{E:Value->Shared->Prop}{s:Shared}{x z:Value}{d:PyData}{as bs:List Addr}{Q:Bool->Shared->Prop}(rm:ee A 10)(ra:Reads s.heap x d as)(rb:Reads s.heap z d bs)(hl:d.canLay0)(hd:d.depth<=64)(q:Q false s):wpAny (C b).M A (compareOp .NotEq x z) (λc s'=>wpAny (C b).M A (truthy c) Q E s') E s:=by
 have sh:SeqAt.shaped d:=by unfold SeqAt.shaped;rw[hl,decide_eq_true hd];rfl
 refine ne_dataH ra rb sh sh (by have:=rm.units;omega) ?_;rw[show PyData.eqv d d=true from PySem.SeqAt.eqv_refl d hl];exact cz q
theorem pJ{ρ:List Addr}{σ:List O}{h:Heap}{i:Nat}{y:Bool}{vs:List V}{a:Addr}(R:(C b).R ρ σ h)(ha:nth ρ i=some a)(ho:nth σ i=some (.list y vs))(hf:p9 vs):Reads h (.ref a) (.list (CE vs)) [a]:=by
 obtain⟨z',n,ho,vr⟩:=R.at ha ho;exact reads_list_at ho rfl rfl (by simpa using rW hf vr)
theorem z8{l:List LE}(h:∀x∈l,CG x):(PyData.list (CE (l.map d4))).canLay0=true/\(PyData.list (CE (l.map d4))).depth<=64:=by
 rw[vP];refine⟨by rw[PyData.canLay0];exact vd _ l λx m=>Jy (h x m),?_⟩;have:=qA (k:=1) (λx=>dV (d4 x)) l λx I=>D2 x;rw[PyData.depth];omega
theorem G5{l:List Str}(h:∀x∈l,q7 x):PyData.canLayAll0 (CE (l.map nJ))=true/\PyData.depthAll (CE (l.map nJ))<=1:=by
 rw[vP];exact⟨vd _ l λx m=>I8 (h x m),qA (k:=1) (λx=>dV (nJ x)) l λx I=>Db x⟩
theorem AV{s:Str}{l:List Nat}(e:s=⟨l.toArray⟩)(h:∀c∈l,c<0x110000):PyData.strOk s:=e▸DE h
theorem zp{ρ:List Addr}{s:Shared}{sb:Str}{lg:List LE}{z:O}{mk:V}{tl:List (Nm×V)}{mr:l7×List LE×Nat}{x w:Value}(hy:nF lim y lg (some mr))(hr:∀rs,y≠ .round rs)(ho:LB y)
  (R:(C b).R ρ (lR (mU an sb nd lim (gA 2 y) tl) (.list true (lg.map d4)) (lH y z) (ke mr)) s.heap) (vx:dH ρ s.heap (qN mr) x) (vw:dH ρ s.heap (gA 2 y) w):∃d as bs,Reads s.heap x d as/\Reads s.heap w d bs/\d.canLay0=true/\d.depth<=64:=by
 cases y with
 |round rs=>exact absurd rfl (hr rs)
 |none k=>
  obtain⟨k',C',e⟩:=hy;cases e;exact⟨_,_,_,ou (v:=.tup [.str true jo]) rfl vx,ou (v:=.tup [.str true jo]) rfl vw,by decide+kernel,by decide+kernel⟩
 |met j e ns=>
  obtain⟨C',e'⟩:=hy;cases e';have rd:∀{i:Nat} {l:List V} {u:Value},l=ns.map nJ->nth (lR (mU an sb nd lim (gA 2 (.met j e ns)) tl) (.list true (lg.map d4)) (lH (.met j e ns) z) (ke (.met j e ns,lg,C'))) i=some (.list true l)->dH ρ s.heap (.tup [.str true lX,.int true (j:Int),.int true (e:Int),.obj i]) u->
    ∃as,Reads s.heap u (.tuple [.str lX,.int j,.int e,.list (CE (ns.map nJ))]) as:=λ{i l u} hl hi vu=>by
   obtain⟨t,z',rfl,⟨o,ho,hc,n,hd⟩,x1,xs,rfl,⟨t1,rfl⟩,x2,xs,rfl,⟨t2,rfl⟩,x3,xs,rfl,⟨t3,rfl⟩,x4,xs,rfl,⟨a,ha,rfl⟩,rfl⟩:=vu;rw[<-dP] at ha;subst hl;have rl:=pJ R ha hi (i5 _ FN ns);exact⟨_,reads_tuple_at ho hc hd (.cons (.str _ _) (.cons (.int _ _) (.cons (.int _ _) (.cons rl .nil))))⟩
  obtain⟨as,r1⟩:=rd (i:=5) (l:=ns.map xS) rfl rfl vx;obtain⟨bs,r2⟩:=rd (i:=3) (l:=ns.map nJ) rfl rfl vw;obtain⟨l1,l2⟩:=G5 ho;refine⟨_,as,bs,r1,r2,a9.mpr ⟨AV (s:=lX) rfl (),a9.mpr ⟨rfl,a9.mpr ⟨rfl,a9.mpr ⟨l1,rfl⟩⟩⟩⟩,?_⟩;simp only[PyData.depth,PyData.depthAll];omega
def Kj:ME:=.cmp .NotEq (.item (.loc kF) (.cst (.int 0))) (.cst (.str jT))
abbrev JA:Sk Stmt:=.if_ (.bor (.l [.cmp (.loc dN) .NotEq (.loc kF),.cmp (.loc eP) .NotEq (.loc iJ)])) .any .nil
end
nonrec theorem D7{b:Bs}{env:Env}{A:Around}{E:Value->Shared->Prop}{an:Bool}{sb:Str}{nd:Nd}{lim:Nat}{lg:List LE}{z:O}{mk:Bool}{x:Stmt}{s:Shared}{ρ:List Addr}{Q:Flow->Shared->Prop}(G:dI b){y:ii}{mr:l7×List LE×Nat}(rm:ee A 20)(en:dE env 1 ρ)(ck:fE env.scope JA x)(hy:nF lim y lg (some mr))(hr:∀rs,y≠ .round rs)(ho:LB y)(hl:∀x∈lg,CG x)(R:(C b).R ρ (lR (mU an sb nd lim (gA 2 y) [(dR,.bool mk),(dN,qN mr),(eP,.obj 4)]) (.list true (lg.map d4)) (lH y z) (ke mr)) s.heap)(q:Q .next s):wpAny (C b).M A (exec (bE JA x) env) Q E s:=by
 obtain⟨⟨⟨⟨lt,et⟩,⟨ld,ed⟩⟩,⟨⟨ll,el⟩,⟨la,ea⟩⟩,_⟩,_⟩:=ck;have hlog:mr.2.1=lg:=by
  cases y with
  |round rs=>exact absurd rfl (hr rs)
  |none k=>obtain⟨_,_,e⟩:=hy;cases e;rfl
  |met j e ns=>obtain⟨_,e⟩:=hy;cases e;rfl
 have h4:nth (lR (mU an sb nd lim (gA 2 y) [(dR,.bool mk),(dN,qN mr),(eP,.obj 4)]) (.list true (lg.map d4)) (lH y z) (ke mr)) 4=some (.list true (lg.map d4)):=by
  obtain⟨m0,lg0,st0⟩:=mr;have hlog:lg0=lg:=hlog;subst hlog;cases m0<;>rfl
 refine wpAny_If (wpAny_isTrue_BoolOp (bY (bZ (fY G (fi:=1) (v:=qN mr) rfl rfl en lt et R λy1 v1=>fY G (fi:=1) (v:=gA 2 y) rfl rfl en ld ed R λy2 v2=>?_) rfl)));obtain⟨dd,as,bs,r1,r2,k1,k2⟩:=zp (mk:=.bool mk) hy hr ho R v1 v2;refine rk (rm.less ()) r1 r2 k1 k2 ?_;rw[if_neg ()];refine bY (bZ (fY G (fi:=1) (v:=.obj 4) rfl rfl en ll el R λy1 v1=>fY G (fi:=1) (v:=.obj 2) rfl rfl en la ea R λy2 v2=>?_) rfl);obtain⟨a4,ha4,rfl⟩:=v1;obtain⟨a2,ha2,rfl⟩:=v2;rw[<-dP] at ha4 ha2;obtain⟨k1,k2⟩:=z8 hl;refine rk (rm.less ()) (pJ R ha4 h4 (i5 _ ri lg)) (pJ R ha2 rfl (i5 _ ri lg)) k1 k2 ?_;rw[if_neg ()];refine wpAny_allTrue_Or_nil ?_;rw[if_neg ()];exact aM q
def Ld:ME:=.tup [.cst (.str hY),.cst (.int 22),.bin .Add (.loc dJ) (.cst (.int 1))]
def IQ:ME:=.call (.glb fU) [.loc eP]
def HJ:ME:=.call (.glb fU) [.item (.loc kF) (.cst (.int 1))]
abbrev lq(an:Bool)(s:Str)(nd:Nd)(lim:Nat)(rs:List LE)(mk:Bool)(st:Nat)(we:List (Nm×V)):List (Nm×V):=mU an s nd lim (gA 2 (.round rs)) ([(dR,.bool mk),(dN,.tup [.str true hY,.int true 22,.int true (st:Int)]),(eP,.obj 4)]++we)
section
variable(sp:jA) (sl:jz) (r:Nat)
section
variable(an:Bool) (s:Str) (nd:Nd) (lim:Nat) (rs:List LE) (mk:Bool) (st:Nat) (we:List (Nm×V)) (ah c3:O) (lg l:List V) (os:List O)
theorem IY:Option.map qa ((ev (Pg (fe []) sp sl r) 20).e Ld 1 ⟨cY:: .frame (lq an s nd lim rs mk st we)::ah::c3::os,[],[]⟩)=
  some (.tup [.str false hY,.int false 22,.int true ((lim:Int)+1)],cY:: .frame (lq an s nd lim rs mk st we)::ah::c3::os,[]):=by walk_at"k"
theorem DV:Option.map qa ((ev (Pg (fe []) sp sl r) 20).e IQ 1 ⟨cY:: .frame (lq an s nd lim rs mk st we)::ah::c3:: .list true lg::os,[],[]⟩)=
  some (.int true (lg.length:Int),cY:: .frame (lq an s nd lim rs mk st we)::ah::c3:: .list true lg::os,[lg.length<2^20]):=by walk_at"k"
theorem FS:Option.map qa ((ev (Pg (fe []) sp sl r) 20).e HJ 1 ⟨cY:: .frame (lq an s nd lim rs mk st we)::ah:: .list true l::os,[],[]⟩)=
  some (.int true (l.length:Int),cY:: .frame (lq an s nd lim rs mk st we)::ah:: .list true l::os,[l.length<2^20]):=by walk_at"k"
end
end
theorem za{b:Bs}{A:Around}{E:Value->Shared->Prop}{l:Addr}{z':List Value}{k:Nat}{x:Nat}{u:Tok}{s:Shared}{Q:Value->Shared->Prop}(ho:s.heap.get? l=some (fk z' k))(hx:x<2^20)(hsz:z'.length*x<=2^20)
  (h:Q (.ref s.heap.objs.size) {s with heap:=s.heap.push {cls:=.type "list",data:=.seq (List.replicate x z').flatten.toArray}}):wpAny (C b).M A (binaryOp .Mult (.ref l) (.int (x:Int) u)) Q E s:=by
 have hx':((x:Nat):Int).toNat=x:=Int.toNat_natCast x;have x0:(0:Int)<=(x:Int):=Int.natCast_nonneg x;have x1:(x:Int)<2^20:=by omega
 generalize (x:Int)=xi at hx' x0 x1;have hsz':z'.toArray.size*xi.toNat<=2^24:=by rw[hx',aI];exact ax hsz ()
 refine wpAny_binaryOp_repeat_ref (T:="list") (U:="int") () ⟨_,ho,rfl⟩ (λs'=>typeIs_int s' xi u) noFill_list_mul F.fills_int_mul F.slot_int_rmul repeat_list F.slot_int_index.lookup
  (call_meets F.slot_int_rmul (typeIs_int s xi u) F.entry_int_rmul (F.args_int_rmul_2 _ _) (lm_int_rmul_list_any xi u l z'.toArray k none #[])
   ⟨ho,rfl,⟨_,ho,rfl⟩,call_meets F.slot_list_mul ⟨_,ho,rfl⟩ F.entry_list_mul (F.args_list_mul_2 _ _)
    (lm_list_mul_any l z'.toArray k none #[] xi u (by simp [Builtin.List.listFitsIndex];omega) (by omega) (by simp [Builtin.List.listTooLong,sizeLine];omega))
    ⟨ho,?_⟩⟩)
 rw[hx',listMul_foldl_if];exact h
abbrev IM:Sk Stmt:=.asg (.tgt ec) (.bin (.loc iJ) .Add (.bin (.sub (.loc kF) (.cst (.int 1))) .Mult (.loc dJ)))
theorem kY(rs:List LE):∀n,(List.replicate n (rs.map d4)).flatten=((List.replicate n rs).flatten).map d4
 |0=>rfl
 |n+1=>by rw[bz,bP,kY rs n,bz,bP,bn]
theorem dy.rep{ρ:List Addr}{h:Heap}{vs:List V}{z':List Value}(v:dy ρ h vs z'):∀n,dy ρ h (List.replicate n vs).flatten (List.replicate n z').flatten
 |0=>.nil
 |n+1=>by rw[bz,bP,bz,bP];exact v.app (dy.rep v n)
theorem pd{α:Type}(l:List α):∀n,(List.replicate n l).flatten.length=n*l.length
 |0=>by simp
 |n+1=>by rw[bz,bP,ai,pd l n,Nat.succ_mul];omega
nonrec theorem FA{b:Bs}{env:Env}{A:Around}{E:Value->Shared->Prop}{an:Bool}{sb:Str}{nd:Nd}{lim:Nat}{rs lg N3:List LE}{mk:Bool}{st:Nat}{x:Stmt}{s:Shared}{ρ:List Addr}{Q:Flow->Shared->Prop}(G:dI b)(rm:ee A 20)(en:dE env 1 ρ)(ck:fE env.scope IM x)(hlim:lim<990)(h1:rs.length<=1000)(h2:lg.length<=1000)(R:(C b).R ρ (lR (lq an sb nd lim rs mk st []) (.list true (lg.map d4)) (.list true (rs.map d4)) [dz N3]) s.heap)(q:∀ρ' s',(C b).Rs ρ (lR (lq an sb nd lim rs mk st []) (.list true (lg.map d4)) (.list true (rs.map d4)) [dz N3]) s ρ' (lR (lq an sb nd lim rs mk st [(ec,.obj 6)]) (.list true (lg.map d4)) (.list true (rs.map d4)) [dz N3,.list true (((List.replicate lim rs).flatten).map d4),.list true ((lg++(List.replicate lim rs).flatten).map d4)]) s'->Q .next s'):wpAny (C b).M A (exec (bE IM x) env) Q E s:=by
 obtain⟨lw,⟨la,ea⟩,⟨⟨ld,ed⟩,_⟩,ll,el⟩:=ck;refine cA (cQ (fY G (fi:=1) (v:=.obj 2) rfl rfl en la ea R λy1 v1=>cQ (Subscript_ (fY G (fi:=1) (v:=.tup [.str true jT,.obj 3]) rfl rfl en ld ed R λy2 v2=>aR ?_)))) (gy rfl _ _ _);have r1:=eR.more0 (s':={s with toks:=s.toks+1}) R (λI I e=>e) rfl rfl;refine(nT (c:=C b) (n:=0) (a:=.tup [.str true jT,.obj 3]) (b:=.int false 1) (st:=⟨lR (lq an sb nd lim rs mk st []) (.list true (lg.map d4)) (.list true (rs.map d4)) [dz N3],[],[]⟩) (v:=.obj 3) rfl (λP m=>by cases m)).2.2 A {s with toks:=s.toks+1} ρ y2 _ _ _ _ E rfl (rm.less ()) r1.rel (λI I e=>by cases e) v2 ⟨_,rfl⟩ λs2 y3 r2 v3=>?_;have r12:=r1.trans r2;refine fY G (fi:=1) (v:=.int true (lim:Int)) rfl rfl (en.grow r12.grow) ll el r12.rel λy4 v4=>?_;obtain⟨a3,ha3,rfl⟩:=v3;obtain⟨t4,rfl⟩:=v4;rw[<-dP] at ha3;obtain⟨z',n,ho,vr⟩:=r12.rel.at ha3 (show nth (lR (lq an sb nd lim rs mk st []) (.list true (lg.map d4)) (.list true (rs.map d4)) [dz N3]) 3=some (.list true (rs.map d4)) from rfl);have lz:z'.length=rs.length:=by have:=vr.length;rw[af] at this;exact this
 have hb:z'.length*lim<=2^20:=by
  rw[lz];exact ax (Nat.mul_le_mul h1 (aZ hlim)) ()
 refine za ho (by omega) hb ?_;have kp:∀b o,s2.heap.get? b=some o->(s2.heap.push {cls:=.type "list",data:=.seq (List.replicate lim z').flatten.toArray}).get? b=some o:=λb o e=>ae _ e;obtain⟨r3,v5⟩:=eR.newL (xs:=(List.replicate lim (rs.map d4)).flatten) (z':=(List.replicate lim z').flatten) (h':=s2.heap.push {cls:=.type "list",data:=.seq (List.replicate lim z').flatten.toArray}) (s:=s2) (y:=true) r12.rel kp (aB _ rfl) (vr.rep lim);have r13:=r12.trans r3;have big:=dv;have hfl:((List.replicate lim (rs.map d4)).flatten).length<=1000*990:=by
  rw[pd,af];exact ax (Nat.mul_le_mul (aZ hlim) h1) ()
 refine(ni (c:=C b) (n:=0) (op:=.Add) (a:=.obj 2) (b:=.obj 5) (st:=⟨lR (lq an sb nd lim rs mk st []) (.list true (lg.map d4)) (.list true (rs.map d4)) [dz N3]++[.list true (List.replicate lim (rs.map d4)).flatten],[],[]⟩) (C':=⟨lR (lq an sb nd lim rs mk st []) (.list true (lg.map d4)) (.list true (rs.map d4)) [dz N3]++[.list true (List.replicate lim (rs.map d4)).flatten]++[.list true (lg.map d4++(List.replicate lim (rs.map d4)).flatten)],[],[(lg.map d4).length+(List.replicate lim (rs.map d4)).flatten.length<=sizeLine]⟩) (v:=.obj 6) rfl (λP m=>by
  cases aj.mp m;rw[af];omega)).2 A _ _ _ _ _ E (rm.less ()) r13.rel (r13.v R v1) v5 λρ6 s6 y6 r6 v6=>?_
 rw[kY,<-bn] at r6;obtain⟨_,_,k7⟩:=d7 (c:=C b) G.X (show gW ⟨lR (lq an sb nd lim rs mk st []) (.list true (lg.map d4)) (.list true (rs.map d4)) [dz N3,.list true (((List.replicate lim rs).flatten).map d4),.list true ((lg++(List.replicate lim rs).flatten).map d4)],[],[]⟩ 1 ec (.obj 6)=some ⟨lR (lq an sb nd lim rs mk st [(ec,.obj 6)]) (.list true (lg.map d4)) (.list true (rs.map d4)) [dz N3,.list true (((List.replicate lim rs).flatten).map d4),.list true ((lg++(List.replicate lim rs).flatten).map d4)],[],[]⟩ from rfl);rw[kY] at r13;have r16:=r13.trans r6;exact k7 A env s6 ρ6 y6 _ E (en.grow r16.grow) lw r16.rel v6 λs7 r7=>q ρ6 s7 (r16.trans r7)
abbrev JG:Sk Stmt:=.if_ (.bor (.l [.cmp (.loc dN) .NotEq (.mb Ld (.tup .any)),.cmp (.loc eP) .NotEq (.sub (.loc ec) (.slc .no (.opt (.m IQ)) .no)),.cmp (.m IQ) .Lt (.call (.glb HM) (.l [.cst (.int 1),.m HJ]))])) .any .nil
theorem D3{α:Type}{l r:List α}(h:l<+:r):r.take l.length=l:=by
 obtain⟨t,rfl⟩:=h;simp
theorem Hd{α:Type}(l:List α){m n:Nat}(h:m<=n):(List.replicate m l).flatten<+:(List.replicate n l).flatten:=by
 obtain⟨k,rfl⟩:=Nat.exists_eq_add_of_le h;rw[<-List.replicate_append_replicate,List.flatten_append];exact b9 _ _
nonrec theorem Ix{b:Bs}{env:Env}{A:Around}{E:Value->Shared->Prop}{an:Bool}{sb:Str}{nd:Nd}{lim:Nat}{rs lg N3:List LE}{mk:Bool}{m:Nat}{P:List V}{x:Stmt}{s:Shared}{ρ:List Addr}{Q:Flow->Shared->Prop}(G:dI b)(rm:ee A 40)(en:dE env 1 ρ)(ck:fE env.scope JG x)(hlim:lim<990)(h1:rs.length<=1000)(h2:lg.length<=1000)(hm:m<=lim)(hp1:lg++rs<+:N3)(hp2:N3<+:lg++(List.replicate m rs).flatten)(hr:∀x∈rs,CG x)(hl:∀x∈lg,CG x)(R:(C b).R ρ (lR (lq an sb nd lim rs mk (lim+1) [(ec,.obj 6)]) (.list true (lg.map d4)) (.list true (rs.map d4)) [dz N3,.list true P,.list true ((lg++(List.replicate lim rs).flatten).map d4)]) s.heap)(q:∀ρ' s' z,(C b).Rs ρ (lR (lq an sb nd lim rs mk (lim+1) [(ec,.obj 6)]) (.list true (lg.map d4)) (.list true (rs.map d4)) [dz N3,.list true P,.list true ((lg++(List.replicate lim rs).flatten).map d4)]) s ρ' (lR (lq an sb nd lim rs mk (lim+1) [(ec,.obj 6)]) (.list true (lg.map d4)) (.list true (rs.map d4)) ([dz N3,.list true P,.list true ((lg++(List.replicate lim rs).flatten).map d4)]++[z])) s'->Q .next s'):wpAny (C b).M A (exec (bE JG x) env) Q E s:=by
 obtain⟨⟨⟨⟨lt,et⟩,ctt,_⟩,⟨⟨ll,el⟩,⟨lw,ew⟩,_,cn,_⟩,⟨cn1,⟨lm,em⟩,_,cn2,_⟩,_⟩,_⟩:=ck;have hpre:N3<+:lg++(List.replicate lim rs).flatten:=by
  refine hp2.trans ?_;exact(List.prefix_append_right_inj lg).mpr (Hd rs hm)
 have hlen:N3.length<=1000+990*1000:=by
  have:=hpre.length_le;rw[ai,pd] at this;have:=Nat.mul_le_mul (aZ hlim) h1;omega
 have okr:∀x∈N3,CG x:=λx mx=>by
  have:=hpre.subset mx;rcases bj.mp this with mx | mx
  .exact hl x mx
  .obtain⟨l',ml,mx⟩:=List.mem_flatten.mp mx
   rw[List.eq_of_mem_replicate ml] at mx;exact hr x mx
 have big:=dv;refine wpAny_If (wpAny_isTrue_BoolOp (bY (bZ (fY G (fi:=1) (v:=.tup [.str true hY,.int true 22,.int true ((lim+1:Nat):Int)]) rfl rfl en lt et R λy1 v1=>?_) rfl)));refine jh G (IY _ _ 0 an sb nd lim rs mk (lim+1) [(ec,.obj 6)] _ _ _) trivial rfl (rm.less ()) en ctt R λρ1 s1 y2 r1 v2=>?_;have w1:=ou (v:=.tup [.str true hY,.int true 22,.int true ((lim+1:Nat):Int)]) rfl (r1.v R v1);have w2:=ou (v:=.tup [.str false hY,.int false 22,.int true ((lim:Int)+1)]) rfl v2;refine rk (rm.less ()) w1 w2 (by simp [dV,CE,PyData.canLay0,PyData.canLayAll0,AV (s:=hY) rfl ()]) (by simp [dV,CE,PyData.depth,PyData.depthAll]) ?_;rw[if_neg ()];have en1:=en.grow r1.grow;refine bY (bZ (fY G (fi:=1) (v:=.obj 4) rfl rfl en1 ll el r1.rel λy3 v3=>oh (hs:=λI I=>⟨_,rfl⟩) (fY G (fi:=1) (v:=.obj 6) rfl rfl en1 lw ew r1.rel λy4 v4=>?_)) rfl);refine jM (pP ?_);refine jh G (DV _ _ 0 an sb nd lim rs mk (lim+1) [(ec,.obj 6)] _ _ (N3.map d4) _) ⟨by rw[af];omega,N4⟩ rfl (rm.less ()) en1 cn r1.rel λρ2 s2 y5 r2 v5=>jM ?_;obtain⟨a6,ha6,rfl⟩:=r2.v r1.rel v4;obtain⟨t5,rfl⟩:=v5;rw[<-dP] at ha6;obtain⟨z',n0,ho,vr⟩:=r2.rel.at ha6 (show nth (lR (lq an sb nd lim rs mk (lim+1) [(ec,.obj 6)]) (.list true (lg.map d4)) (.list true (rs.map d4)) [dz N3,.list true P,.list true ((lg++(List.replicate lim rs).flatten).map d4)]) 6=some (.list true ((lg++(List.replicate lim rs).flatten).map d4)) from rfl);have lz:z'.length<=2^20:=by
  have:=vr.length;rw[af,ai,pd] at this;have:=Nat.mul_le_mul (aZ hlim) h1;omega
 refine⟨a6,z',none,some ((N3.map d4).length:Int),none,rfl,⟨_,ho,rfl,n0,rfl⟩,lz,.none,.int _ _,.none,by simp,λh' kp e=>?_⟩;have ep:slicePick z'.toArray none (some ((N3.map d4).length:Int)) none=(z'.take N3.length).toArray:=by rw[af];exact slicePick_upto' z'.toArray N3.length
 rw[ep] at e;have ev:(((lg++(List.replicate lim rs).flatten).map d4).take N3.length)=N3.map d4:=by rw[<-List.map_take,D3 hpre]
 have vs:=vr.take N3.length;rw[ev] at vs;generalize hD:s2.heap.objs.size+1=D at e;have fD:s2.heap.get? D=none:=by
  cases q:s2.heap.get? D with
  |none=>rfl
  |some o=>have:=ay q;rw[<-hD] at this;exact absurd this (cF.mpr (au _))
 have r3:(C b).Rs ρ2 _ s2 (ρ2++[D]) (_++[.list true (N3.map d4)]) {s2 with heap:=h'}:=
  eR.pushC (o:=.list true (N3.map d4)) r2.rel kp (λx m=>by cases aj.mp m;exact fD) ⟨z'.take N3.length,0,e,vs.up (.app _ _) (.of_keeps kp)⟩ rfl rfl (by
   have:=ay e;rw[<-hD] at this;exact aZ (bw (au _) this))
 have r13:=r1.trans (r2.trans r3);have eN:nth (ρ2++[D]) 7=some D:=by have:=gr ρ2 D;rw[r2.rel.len] at this;exact this
 obtain⟨a4,ha4,rfl⟩:=(r2.trans r3).v r1.rel v3;rw[<-dP] at ha4;obtain⟨k1,k2⟩:=z8 okr;refine rk (rm.less ()) (pJ r3.rel ha4 rfl (i5 _ ri N3)) (pJ r3.rel eN rfl (i5 _ ri N3)) k1 k2 ?_;rw[if_neg ()];have en3:=en.grow r13.grow;refine bY (bZ (jh G (DV _ _ 0 an sb nd lim rs mk (lim+1) [(ec,.obj 6)] (O.list true (lg.map d4)) (O.list true (rs.map d4)) (N3.map d4) (O.list true P::O.list true (List.map d4 (lg++(List.replicate lim rs).flatten))::[O.list true (List.map d4 N3)])) ⟨by rw[af];omega,N4⟩ rfl (rm.less ()) en3 cn1 r3.rel λρ4 s4 y6 r4 v6=>?_) rfl);have r14:=r13.trans r4;refine bH (g8 (c:=C b) (st:=⟨_,[],[]⟩) G.X (n:=HM) (v:=.bi 7) rfl (en.grow r14.grow) lm em r4.rel λy7 v7=>?_);cases v7;have e2:starEach [(Expr.Constant (.int 1) (de (ic (kL (ic (kL (ic (kL (sT x)).tail.tail)))))).n (kQ (ic (kL (ic (kL (ic (kL (sT x)).tail.tail))))))),(ic (kL (ic (kL (ic (kL (sT x)).tail.tail)))).tail)] env=(false,eval (Expr.Constant (.int 1) (de (ic (kL (ic (kL (ic (kL (sT x)).tail.tail)))))).n (kQ (ic (kL (ic (kL (ic (kL (sT x)).tail.tail))))))) env)::starEach [(ic (kL (ic (kL (ic (kL (sT x)).tail.tail)))).tail)] env:=ez rfl;have e3:starEach [(ic (kL (ic (kL (ic (kL (sT x)).tail.tail)))).tail)] env=(false,eval (ic (kL (ic (kL (ic (kL (sT x)).tail.tail)))).tail) env)::starEach [] env:=ez (gQ _ _ _ _ cn2);refine callWith_builtin (by show _=_;first | (rw[e2,e3];rfl) | (erw[e2,e3];rfl)) ?_;have ea:∀{f:Value} {Q:Args->Shared->Prop} {s:Shared},wpAny (C b).M A (spliced (backTo (kQ (ic (kL (ic (kL (sT x)).tail.tail)))) (starEach [(Expr.Constant (.int 1) (de (ic (kL (ic (kL (ic (kL (sT x)).tail.tail)))))).n (kQ (ic (kL (ic (kL (ic (kL (sT x)).tail.tail))))))),(ic (kL (ic (kL (ic (kL (sT x)).tail.tail)))).tail)] env))) (λvs s'=>Q ⟨vs,[]⟩ s') E s->wpAny (C b).M A (evalArgs f true (backTo (kQ (ic (kL (ic (kL (sT x)).tail.tail)))) (starEach [(Expr.Constant (.int 1) (de (ic (kL (ic (kL (ic (kL (sT x)).tail.tail)))))).n (kQ (ic (kL (ic (kL (ic (kL (sT x)).tail.tail))))))),(ic (kL (ic (kL (ic (kL (sT x)).tail.tail)))).tail)] env)) []) Q E s:=λq=>by
  rw[e2] at q ⊢;exact cu q
 refine ea (aF (aR (aF ?_ e3)) e2);have r5s:=eR.more0 (s':={s4 with toks:=s4.toks+1}) r4.rel (λI I e=>e) rfl rfl;have r5:=r4.trans r5s;refine jh G (FS _ _ 0 an sb nd lim rs mk (lim+1) [(ec,.obj 6)] (O.list true (lg.map d4)) (rs.map d4) (dz N3::O.list true P::O.list true (List.map d4 (lg++(List.replicate lim rs).flatten))::[O.list true (List.map d4 N3)])) ⟨by rw[af];omega,N4⟩ rfl (rm.less ()) (en.grow r14.grow) cn2 r5.rel λρ6 s6 y8 r6 v8=>aN ?_;obtain⟨t8,rfl⟩:=v8;refine min_two_ints rm.handled λh7 tk7 kp7=>?_;have r7:=r6.trans (eR.more0 (s':={s6 with heap:=h7,toks:=tk7}) r6.rel kp7 rfl rfl);have hge:∀z:Int,z=(if((rs.map d4).length:Int)<1 then((rs.map d4).length:Int) else 1)->¬((N3.map d4).length:Int)<z:=λz hz=>by
  rw[af] at hz ⊢;have:rs.length<=N3.length:=by
   have:=hp1.length_le;rw[ai] at this;omega
  split at hz<;>omega
 obtain⟨z,u,hz,e⟩:∃(z:Int) (u:Tok),z=(if((rs.map d4).length:Int)<1 then((rs.map d4).length:Int) else 1)/\(if((rs.map d4).length:Int)<1 then Value.int ((rs.map d4).length:Int) t8 else Value.int 1 s4.toks)=Value.int z u:=by
  split
  .exact⟨_,_,rfl,rfl⟩
  .exact⟨_,_,rfl,rfl⟩
 rw[e];refine(us (c:=C b) (n:=0) (op:=.Lt) (a:=.int true ((N3.map d4).length:Int)) (b:=.int true z) (st:=⟨_,[.b false],[]⟩) (C':=⟨_,[],[decide (((N3.map d4).length:Int)<z)=false]⟩) (r:=false) rfl (λP m=>by cases aj.mp m;exact ag (hge z hz))).2.2 A _ ρ6 y6 _ _ E (rm.less ()) r7.rel (λI I e=>by cases e) ((r5s.trans r7).v r4.rel v6) ⟨u,rfl⟩ (cz ?_);rw[if_neg ()];refine wpAny_allTrue_Or_nil ?_;rw[if_neg ()];exact aM (q ρ6 _ _ (r13.trans (r5.trans r7)))
section
variable(sp:jA) (sl:jz) (r:Nat)
theorem zH(an:Bool)(s w:Str)(nd:Nd)(lim:Nat)(Ws:List V)(tl:List (Nm×V))(ah c3:O)(os:List O)(bb:Bool):Option.map Gz ((ev (Pg (fe []) sp sl r) 20).t Kj 1 ⟨cY:: .frame (mU an s nd lim (.tup (.str true w::Ws)) tl)::ah::c3::os,[.b bb],[]⟩)=
  some (bb,cY:: .frame (mU an s nd lim (.tup (.str true w::Ws)) tl)::ah::c3::os,[decide (w≠jT)=bb]):=by walk_at"k"
end
abbrev yT:Sk (List Stmt):=.l [.x Ab,.if_ (.m Kj) (.l [JA]) (.l [IM,JG])]
def Km(y:ii):Prop:=match y with
 | .none _=>True
 | .round rs=>rs.length<=1000
 | .met _ _ ns=>ns.length<=1000
nonrec theorem Bf{b:Bs}{env:Env}{A:Around}{E:Value->Shared->Prop}{sb:Str}{lim:Nat}{lg:List LE}{z:O}{l:List Stmt}{s:Shared}{ρ:List Addr}{fs:List Env}{Q:Flow->Shared->Prop}(G:dI b)(XFc:XF (C b))(SF:oU (C b))(HF:mt (C b)){mk an:Bool}{nd:Nd}{y:ii}{mr:l7×List LE×Nat}(rm:ee A 210)(en:dE env 1 ρ)(ck:fE env.scope yT l)(hs:sb.length<=8)(hlim:lim<980)(hcat:∃p q,nd= .cat p q)(hn:gb nd<100)(h:qu mk sb nd an lim mr)(hy:nF lim y lg (some mr))(hL:Km y)(hlg:lg.length<=1000)(ho:LB y)(hl:∀x∈lg,CG x)(hz:fw 4 z)(R:(C b).R ρ (lR (mU an sb nd lim (gA 2 y) [(dR,.bool mk)]) (.list true (lg.map d4)) (lH y z) []) s.heap)(fr:iZ (C b).h₀ fs A ρ (lR (mU an sb nd lim (gA 2 y) [(dR,.bool mk)]) (.list true (lg.map d4)) (lH y z) []) s.heap)(al:∀L∈fs.filterMap (·.frame),L∈dA ρ (lR (mU an sb nd lim (gA 2 y) [(dR,.bool mk)]) (.list true (lg.map d4)) (lH y z) []))(q:∀ρ' s' τ g,(C b).Rs ρ (lR (mU an sb nd lim (gA 2 y) [(dR,.bool mk)]) (.list true (lg.map d4)) (lH y z) []) s ρ' τ s'->dg (C b) 4 g τ (·=lR (mU an sb nd lim (gA 2 y) []) (.list true (lg.map d4)) (lH y z) [])->Q .next s'):wpAny (C b).M A (execs (bE yT l) env) Q E s:=by
 obtain⟨c1,⟨ct,⟨cj1,_⟩,cw,cj2,_⟩,_⟩:=ck;obtain⟨pp,qq,rfl⟩:=hcat;have hmz:∀j e ns l' t',mr=(.met j e ns,l',t')->ns.length<=1000:=λj e ns l' t' hm=>by
  subst hm;cases y with
  |none k=>obtain⟨_,_,e⟩:=hy;cases e
  |round rs=>obtain⟨_,_,e,_⟩:=hy;cases e
  |met j' e' N0=>obtain⟨_,e⟩:=hy;cases e;exact hL
 refine ak (ye G XFc SF HF rm en c1 hs (by omega) hn h hmz Dl (zV hz) R fr al λρ1 s1 r1=>?_);have en1:=en.grow r1.grow;cases y with
 |round rs=>
  obtain⟨N3,m,e,hp1,hp2,hm⟩:=hy;cases e;refine ak (wpAny_If (pN G (zH _ _ 0 an sb jT (.cat pp qq) lim [.obj 3] _ _ _ _ false) ⟨ag (λz=>z rfl),N4⟩ rfl (rm.less ()) en1 ct r1.rel λρ2 s2 r2=>?_));rw[if_neg ()];have r12:=r1.trans r2;refine ak (FA G (N3:=N3) (st:=lim+1) (mk:=mk) (rm.less ()) (en.grow r12.grow) cw (by omega) hL hlg r12.rel λρ3 s3 r3=>?_);have r13:=r12.trans r3;refine ak (Ix G (N3:=N3) (mk:=mk) (rm.less ()) (en.grow r13.grow) cj2 (by omega) hL hlg hm hp1 hp2 ho hl r13.rel λρ4 s4 z4 r4=>aM (aM ?_));exact q ρ4 s4 _ _ (r13.trans r4) (qy (y:=.round rs) (z:=z) hz _ _)
 |none k=>
  refine ak (wpAny_If (pN G (zH _ _ 0 an sb jo (.cat pp qq) lim [] _ _ _ _ true) ⟨av (),N4⟩ rfl (rm.less ()) en1 ct r1.rel λρ2 s2 r2=>?_));rw[if_pos rfl];have r12:=r1.trans r2;refine ak (D7 G (y:=.none k) (mk:=mk) (mr:=mr) (rm.less ()) (en.grow r12.grow) cj1 hy (λI e=>by cases e) ho hl r12.rel (aM (aM ?_)));exact q ρ2 s2 _ _ r12 (qy (y:=.none k) (z:=z) hz _ _)
 |met j e ns=>
  refine ak (wpAny_If (pN G (zH _ _ 0 an sb lX (.cat pp qq) lim [.int true (j:Int),.int true (e:Int),.obj 3] _ _ _ _ true) ⟨av (),N4⟩ rfl (rm.less ()) en1 ct r1.rel λρ2 s2 r2=>?_));rw[if_pos rfl];have r12:=r1.trans r2;refine ak (D7 G (y:=.met j e ns) (mk:=mk) (mr:=mr) (rm.less ()) (en.grow r12.grow) cj1 hy (λI e=>by cases e) ho hl r12.rel (aM (aM ?_)));exact q ρ2 s2 _ _ r12 (qy (y:=.met j e ns) (z:=z) hz _ _)
theorem qW(ps:List dZ):(dc ps).length<=3*ps.length:=by
 unfold dc;have h1:=hH (eS (ps.map Lf.part));have h2:=mT (ps.map Lf.part);rw[af] at h2;omega
theorem AO(p:dZ):wm p<=5:=by
 cases p with
 |cur=>decide
 |mk m b=>cases m<;>cases b<;>decide
theorem Az:∀ps:List dZ,Cy ps<=5*ps.length
 |[]=>aJ _
 |p::ps=>by
  have h1:=AO p;have h2:=Az ps;show wm p+Cy ps<=5*(ps.length+1);omega
theorem AJ:∀ps:List dZ,oZ ps<=6*ps.length
 |[]=>aJ _
 |p::ps=>by
  have h1:=AO p;have h2:=AJ ps;show(1+wm p)+oZ ps<=6*(ps.length+1);omega
theorem xF:∀ps:List dZ,gb (fh ps)=2*ps.length+1
 |[]=>rfl
 |p::ps=>by
  show 1+gb (fh ps)+1=2*(ps.length+1)+1;rw[xF ps];omega
theorem wO:∀(bp:List dZ) (n:Nd),gb (bp.foldl (λn p=>.cat n (.lf (.part p))) n)=gb n+2*bp.length
 |[],_=>rfl
 |p::bp,n=>by
  rw[List.foldl_cons,wO bp];show gb n+1+1+2*bp.length=gb n+2*(bp.length+1);omega
theorem FL(fp bp:List dZ):gb (fu fp bp)=2*fp.length+1+2*bp.length:=by
 unfold fu;rw[wO,xF]
theorem uf:∀(bp:List dZ) (n:Nd),bp≠[]->∃p q,bp.foldl (λn p=>Nd.cat n (.lf (.part p))) n= .cat p q
 |[],_,h=>absurd rfl h
 |[p],n,_=>⟨_,_,rfl⟩
 |p::r::bp,n,_=>by
  rw[List.foldl_cons];exact uf (r::bp) _ (by intro z;cases z)
theorem El(fp:List dZ){bp:List dZ}(h:bp≠[]):∃p q,fu fp bp= .cat p q:=uf bp _ h
theorem AQ(s:Str)(fp bp:List dZ)(hf:fp.length<=10)(hb:bp.length<=10):∀(n j:Nat) (lg:List LE),lg.length+10*n<=500->Km (mc s fp bp n j lg).1/\(mc s fp bp n j lg).2.length<=1000
 |0,_,lg,h=>⟨N4,by show lg.length<=1000;omega⟩
 |n+1,j,lg,h=>by
  have q:=rx s fp j false [] lg;rw[kU];cases c1:d3 s fp j false [] lg with
  |mk y L'=>
   rw[c1] at q;have q1:=q.1;dsimp only at q1;cases y with
   |over=>exact⟨N4,by show L'.length<=1000;omega⟩
   |no=>exact AQ s fp bp hf hb n (j+1) L' (by omega)
   |ok a ns f=>
    dsimp only;have q2:=rx s bp a false [] [];have q3:=(q.2 _ _ _ rfl).2;cases c2:d3 s bp a false [] [] with
    |mk z rs=>
     rw[c2] at q2;have q4:=q2.1;simp only[bI] at q3 q4;cases z with
     |over=>exact⟨N4,by show(L'++rs).length<=1000;rw[ai];omega⟩
     |no=>exact⟨by show rs.length<=1000;omega,by show L'.length<=1000;omega⟩
     |ok e ms g=>
      have q5:=(q2.2 _ _ _ rfl).2;simp only[bI] at q5;exact⟨by show(ns++ms).length<=1000;rw[ai];omega,by show(L'++rs).length<=1000;rw[ai];omega⟩
theorem B2{s:Str}{fp bp:List dZ}{an mk:Bool}{lim:Nat}(hs:s.length<=4)(hf:fp.length<=2)(hb:bp.length<=3)(hl:200<=lim):
  ∃mr,qu mk s (fu fp bp) an lim mr/\nF lim (wq s fp bp an).1 (wq s fp bp an).2 (some mr):=by
 have hn:dK s an<=5/\dK s an<=s.length+1:=by
  unfold dK
  split<;>omega
 have some_of:∀{y lg e},nF lim y lg e->∃mr,e=some mr:=λ{y lg e} h=>by
  cases y with
  |none k=>obtain⟨_,_,rfl⟩:=h;exact⟨_,rfl⟩
  |round rs=>obtain⟨_,_,rfl,_⟩:=h;exact⟨_,rfl⟩
  |met j e ns=>obtain⟨_,rfl⟩:=h;exact⟨_,rfl⟩
 have h1:=qW fp;have h2:=qW bp;have h3:=Az bp;have h4:=AJ fp;cases mk with
 |true=>
  have q:=IG (s:=s) (fp:=fp) (bp:=bp) (lim:=lim) (dK s an) (j:=0) (lg:=[]) (st:=0) (by omega) (by
   have:=Nat.mul_le_mul hn.1 (show(dc fp).length+(dc bp).length+2<=17 by omega);omega)
  obtain⟨mr,e⟩:=some_of q;exact⟨mr,e,by rw[<-e];exact q⟩
 |false=>
  have q:=Ip (s:=s) (fp:=fp) (bp:=bp) (lim:=lim) (by omega) (dK s an) (j:=0) (lg:=[]) (st:=0) (by omega) (by
   have:=Nat.mul_le_mul hn.1 (show bp.length+oZ fp+Cy bp+2<=32 by omega);omega)
  obtain⟨mr,e⟩:=some_of q;exact⟨mr,e,by rw[<-e];exact q⟩
abbrev yQ:Sk Stmt:=.for_ (.tgt dR) (.tup (.l [.cst (.bool true),.cst (.bool false)])) yT
abbrev zd:Sk (List Stmt):=.l [.x De,I1,zF,DH,.x EP,yQ,.ret (.cst (.bool true))]
abbrev C9:Sk (List Stmt):=.cons DP (.cons zy (.cons CI (.cons zh (.cons (rG gY 2) (.cons (rG gV 3) zd)))))
theorem FG{b:Bs}{env:Env}{A:Around}{h:Heap}{ρ:List Addr}{σ:List O}{i:Nat}{m:List (Nm×V)}(hfr:A.frames=some [env])(ef:env.frame=some env.locals)(hk:env.scope.kind= .function)(hl:nth ρ i=some env.locals)(ho:nth σ i=some (.frame m))(R:(C b).R ρ σ h):
  iZ (C b).h₀ [env] A ρ σ h/\∀L∈[env].filterMap (·.frame),L∈dA ρ σ:=by
 obtain⟨m',⟨o',es,ep,ho',hd,_⟩,_⟩:=R.at hl ho;have mm:env.locals∈dA ρ σ:=dC.mpr ⟨i,_,_,hl,ho,.head _⟩;have only:∀L∈[env].filterMap (·.frame),L=env.locals:=λL m=>by
  rw[a8,ef] at m;rcases aD.mp m with e | m
  .exact e
  .cases m
 exact⟨⟨hfr,⟨by rw[hk];decide,⟨_,o',ef,R.new _ mm,ho',λvs z=>by rw[hd] at z;cases z⟩,N4⟩,λL m I=>by rw[only L m];exact⟨i,_,hl,ho⟩⟩,λL m=>by rw[only L m];exact mm⟩
theorem DC{b:Bs}{an:Bool}{sb:Str}{nd:Nd}{lim:Nat}{y:ii}{lg:List LE}{p:List Int×Int}{fp bp:List dZ}:
  ∃g,g 0=some 1/\dg (C b) 0 g (j5 an sb [(cU,d6 3 nd),(dJ,.int true (lim:Int)),(kF,gA 6 y),(iJ,.obj 6)] p fp bp (.list true (lg.map d4)::wF y)) (·=lR (mU an sb nd lim (gA 2 y) []) (.list true (lg.map d4)) (lH y (.list true (fp.map (db 0)))) []):=by
 have S:∀{f:Nat->Option Nat},f 3=some 0->f 6=some 2->RV f (gA 6 y) (gA 2 y)->RO f (.frame (tF an sb [(cU,d6 3 nd),(dJ,.int true (lim:Int)),(kF,gA 6 y),(iJ,.obj 6)])) (.frame (mU an sb nd lim (gA 2 y) [])):=λh3 h6 hw=>
  .f (.k rfl .b (.k rfl .s (.k rfl (.nd h3 nd) (.k rfl .i (.k rfl hw (.k rfl (.o h6) .z))))))
 cases y with
 |none w=>
  exact⟨fb [3,0,6,4],rfl,dg.sel (I':=[cY,.frame (tF an sb [(cU,d6 3 nd),(dJ,.int true (lim:Int)),(kF,gA 6 (.none w)),(iJ,.obj 6)]),.list true (lg.map d4),.list true (fp.map (db 3))]) rfl () (λi hi=>absurd hi (cB _))
   (.k .ref (.k (S rfl rfl (.t (.k .s .z))) (.k (.l (.les _)) (.k (.l (.parts (r:=3) (r':=0) rfl _)) .z))))⟩
 |round rs=>
  exact⟨fb [3,0,6,7],rfl,dg.sel (I':=[cY,.frame (tF an sb [(cU,d6 3 nd),(dJ,.int true (lim:Int)),(kF,gA 6 (.round rs)),(iJ,.obj 6)]),.list true (lg.map d4),.list true (rs.map d4)]) rfl () (λi hi=>absurd hi (cB _))
   (.k .ref (.k (S rfl rfl (.t (.k .s (.k (.o rfl) .z)))) (.k (.l (.les _)) (.k (.l (.les _)) .z))))⟩
 |met j e ns=>
  exact⟨fb [3,0,6,7],rfl,dg.sel (I':=[cY,.frame (tF an sb [(cU,d6 3 nd),(dJ,.int true (lim:Int)),(kF,gA 6 (.met j e ns)),(iJ,.obj 6)]),.list true (lg.map d4),.list true (ns.map nJ)]) rfl () (λi hi=>absurd hi (cB _))
   (.k .ref (.k (S rfl rfl (.t (.k .s (.k .i (.k .i (.k (.o rfl) .z)))))) (.k (.l (.les _)) (.k (.l (.nms _)) .z))))⟩
nonrec theorem G7{env:Env}{A:Around}{E:Value->Shared->Prop}{x:Stmt}{s:Shared}{ρ:List Addr}{an:Bool}{sb:Str}{fp bp:List dZ}{lg:List LE}{y:ii}{Q:Flow->Shared->Prop}{{b:Bs}}(G:dI b)(XFc:XF (C b))(SF:oU (C b))(HF:mt (C b)){lim:Nat}(rm:ee A 300)(en:dE env 1 ρ)(ef:env.frame=some env.locals)(hfr:A.frames=some [env])(ck:fE env.scope yQ x)(hs:sb.length<=4)(hok:q7 sb)(hf:fp.length<=2)(hb:bp.length<=3)(hb0:bp≠[])(hl:200<=lim)(hl2:lim<300)(hy:wq sb fp bp an=(y,lg))(R:(C b).R ρ (lR (mU an sb (fu fp bp) lim (gA 2 y) []) (.list true (lg.map d4)) (lH y (.list true (fp.map (db 0)))) []) s.heap)(q:∀ρ' s',(C b).Rs ρ (lR (mU an sb (fu fp bp) lim (gA 2 y) []) (.list true (lg.map d4)) (lH y (.list true (fp.map (db 0)))) []) s ρ' (lR (mU an sb (fu fp bp) lim (gA 2 y) []) (.list true (lg.map d4)) (lH y (.list true (fp.map (db 0)))) []) s'->Q .next s'):wpAny (C b).M A (exec (bE yQ x) env) Q E s:=by
 obtain⟨lm,_,cb⟩:=ck;have hz:fw 4 (.list true (fp.map (db 0))):=λf h=>.l (.parts (h 0 ()) _);have hn:dK sb an<=5:=by unfold dK;split<;>omega
 have oks:=CR sb hok fp bp (dK sb an) 0 [] (λI m=>by cases m);have lens:=AQ sb fp bp (by omega) (by omega) (dK sb an) 0 [] (by simp only[bI];omega);have hy0:mc sb fp bp (dK sb an) 0 []=(y,lg):=hy;rw[hy0] at oks lens;refine Du (c:=C b) R rm.handled (λbb ρ' s' E' r=>?_) q;obtain⟨_,_,k5⟩:=d7 (c:=C b) G.X (show gW ⟨lR (mU an sb (fu fp bp) lim (gA 2 y) []) (.list true (lg.map d4)) (lH y (.list true (fp.map (db 0)))) [],[],[]⟩ 1 dR (.bool bb)=some ⟨lR (mU an sb (fu fp bp) lim (gA 2 y) [(dR,.bool bb)]) (.list true (lg.map d4)) (lH y (.list true (fp.map (db 0)))) [],[],[]⟩ from rfl);refine k5 A env s' ρ' (.bool bb) _ E' (en.grow r.grow) lm r.rel rfl λs1 r1=>?_;have en1:=en.grow (r.trans r1).grow;obtain⟨fr,al⟩:=FG (b:=b) (i:=1) hfr ef en.kind en1.loc rfl r1.rel;obtain⟨mr,hm,hme⟩:=B2 (an:=an) (mk:=bb) (s:=sb) (fp:=fp) (bp:=bp) (lim:=lim) hs hf hb hl;rw[hy] at hme;refine Bf G XFc SF HF (mk:=bb) (rm.less ()) en1 cb (by omega) (by omega) (El fp hb0) (by rw[FL];omega) hm hme lens.1 lens.2 oks.1 oks.2 hz r1.rel fr al λρ2 s2 τ g r2 T=>⟨rfl,ρ2,τ,g,r1.trans r2,T⟩
nonrec theorem Dp{b:Bs}{env:Env}{A:Around}{E:Value->Shared->Prop}{an:Bool}{sb:Str}{p:List Int×Int}{fp:List dZ}{l:List Stmt}{s₀ s:Shared}{ρ:List Addr}{Q:Flow->Shared->Prop}(G:dI b)(XFc:XF (C b))(SF:oU (C b))(HF:mt (C b)){bp:List dZ}(rm:ee A 300)(en:dE env 0 ρ)(ef:env.frame=some env.locals)(hfr:A.frames=some [env])(ck:fE env.scope zd l)(hs:sb.length<=4)(hok:q7 sb)(hf:fp.length<=2)(hb:bp.length<=3)(hb0:bp≠[])(hbox:ie p)(R0:(C b).R [] [] s₀.heap)(r:(C b).Rs [] [] s₀ ρ (j5 an sb [] p fp bp []) s)(cv:gO env ρ (j5 an sb [] p fp bp []) s.heap ey 2)(q:∀ρ' s' σ',(C b).Rs [] [] s₀ ρ' σ' s'->Q (.ret (.bool true)) s'):wpAny (C b).M A (execs (bE zd l) env) Q E s:=by
 obtain⟨c7,c8,c9,c10,c11,c12,_⟩:=ck;refine ak (Dk G (rm.less ()) en c7 r.rel λρ1 s1 r1=>?_);refine ak (Fn G (rm.less ()) (en.grow r1.grow) c8 (by omega) r1.rel λρ2 s2 r2=>?_);have r12:=r1.trans r2;refine ak (BA G (rm.less ()) (en.grow r12.grow) c9 r12.rel λρ3 s3 r3=>?_);have r13:=r12.trans r3;have t:=jG (lim:=60) () p;refine ak (CJ G (rm.less ()) (en.grow r13.grow) c10 hbox r13.rel (cv.res r13) λρ4 s4 r4=>?_);have r14:=r13.trans r4;have hl:200<=200+(take 60 p).1.toNat:=aA _ _;have hl2:200+(take 60 p).1.toNat<300:=by omega
 generalize 200+(take 60 p).1.toNat=lim at r4 r14 hl hl2;generalize (take 60 p).2=p' at r4 r14;cases hd:wq sb fp bp an with
 |mk y lg=>
  refine ak (E0 G (rm.less ()) (en.grow r14.grow) c11 (by omega) (by omega) (by omega) hd r14.rel λρ5 s5 r5=>?_);have r05:=r.trans (r14.trans r5);obtain⟨g,hg,T⟩:=DC (b:=b) (an:=an) (sb:=sb) (nd:=fu fp bp) (lim:=lim) (y:=y) (lg:=lg) (p:=p') (fp:=fp) (bp:=bp);obtain⟨ρ6,σ6,rfl,r6,g6,_⟩:=eR.tell (c:=C b) r05 T (ao _) rfl;have en6:dE env 1 ρ6:=⟨en.kind,g6 0 1 hg _ ((r14.trans r5).grow _ _ en.loc),en.glob,en.blt⟩
  refine ak (G7 G XFc SF HF rm en6 ef hfr c12 hs hok hf hb hb0 hl hl2 hd r6.rel λρ7 s7 r7=>?_);refine ak (wpAny_Return_some (wpAny_Constant_bool ?_));exact q ρ7 s7 _ (r6.trans r7)
nonrec theorem DQ{b:Bs}{env:Env}{A:Around}{E:Value->Shared->Prop}{bd:List Stmt}{s₀ s:Shared}{ρ:List Addr}{S cb cr:Addr}{xs:List Int}{Q:Flow->Shared->Prop}(G:dI b)(XFc:XF (C b))(SF:oU (C b))(HF:mt (C b))(rm:ee A 300)(en:dE env 0 ρ)(ef:env.frame=some env.locals)(hfr:A.frames=some [env])(ck:Fj env.scope C9 bd)(sc:DL s.heap S xs)(hx:xs.length<=100)(R0:(C b).R [] [] s₀.heap)(r:(C b).Rs [] [] s₀ ρ [.frame (ib S)] s)(hS:S∉dA ρ [.frame (ib S)])(hb:env.cells.lookup (nmT ey)=some cb)(vb:s.heap.IsCell cb none)(nb:cb∉dA ρ [.frame (ib S)])(ob:s₀.heap.get? cb=none)(hr:env.cells.lookup (nmT eH)=some cr)(vr:s.heap.IsCell cr none)(nr:cr∉dA ρ [.frame (ib S)])(or':s₀.heap.get? cr=none)(ne:cb≠cr)(neb:S≠cb)(q:∀ρ' s' σ',(C b).Rs [] [] s₀ ρ' σ' s'->Q (.ret (.bool true)) s'):wpAny (C b).M A (execs bd env) Q E s:=by
 have ck:=qh ck;rw[ck.1];obtain⟨_,c1,c2,c3,c4,c5,c6,ck⟩:=ck;have hf0:∀k,fw k (.frame (ib S)):=λk f hf=>.f (.k rfl .v .z);refine ak (CQ G (rm.less ()) en c1 rfl sc hx hf0 R0 r (aJ _) hb vb nb ob λρ1 s1 r1 cv1 en1 f1 k1=>?_);have sc1:DL s1.heap S xs:=by
  exact sc.keep λo e=>k1 S o e hS neb
 obtain⟨oc,hoc,hdc⟩:=vr;have hc1:=k1 cr oc hoc nr (λz=>ne z.symm);have nr1:cr∉dA ρ1 (e7 (ib S) (xs.take 40,7) []):=λm=>by
  rcases f1 cr m with z | z
  .exact nr z
  .rw[hoc] at z;cases z
 refine ak (Bl G (rm.less ()) en1 c2 sc1 hx r1.rel cv1 λρ2 s2 r2=>?_);have hh:=Ao (xs.take 40) (z:=7) () ();have hl40:(xs.take 40).length<=40:=by rw[cc];omega
 have b2:ie (xs.take 40,iM (xs.take 40) 7):=⟨hh.1,hh.2,bw hl40 ()⟩
 generalize hp:(xs.take 40,iM (xs.take 40) 7)=p2 at r2 b2;have hI:xs.take 40=p2.1:=by rw[<-hp]
 have r2':(C b).Rs ρ1 (e7 (ib S) (xs.take 40,7) []) s1 ρ2 (e7 (ib S) p2 [fg (xs.take 40)]) s2:=by rw[<-hp];rw[<-hp] at r2;exact r2
 have hc2:=r2'.keep cr oc hc1 nr1;have nr2:cr∉dA ρ2 (e7 (ib S) p2 [fg (xs.take 40)]):=λm=>by
  rcases r2'.fresh cr m with z | z
  .exact nr1 z
  .rw[hc1] at z;cases z
 refine ak (Ex G (rm.less ()) (en1.grow r2'.grow) c3 b2 R0 (aJ _) (r1.trans r2') (cv1.res r2') hr ⟨oc,hc2,hdc⟩ nr2 or' (λca h=>by rw[hb] at h;cases h;exact ne) λρ3 s3 r3 cb3 cr3 en3=>?_);have b3:=jd (lim:=2) b2;generalize decide ((take 2 p2).1=1)=an at r3 cb3 cr3;generalize (take 2 p2).2=p3 at r3 cb3 cr3 b3;have hfa:∀k,fw k (.frame [(cT,.bool an)]):=λk f hf=>.f (.k rfl .b .z);refine ak (Bo G (rm.less ()) en3 c4 b3 r3.rel cb3 (hfa 5) λρ4 s4 r4=>?_);have t5:=jG (lim:=5) () p3;have ll:=jc (take 5 p3).1.toNat (take 5 p3).2;have l1:=ku (take 5 p3).1.toNat (take 5 p3).2;have lok:=rR (take 5 p3).1.toNat (take 5 p3).2;have b4:=lJ (jd (lim:=5) b3) (take 5 p3).1.toNat;generalize hlt:dm (take 5 p3).1.toNat (take 5 p3).2=lt at r4 ll l1 lok b4;obtain⟨ls,p4⟩:=lt;have hsl:(Txt.join ⟨#[]⟩ ls).length<=4:=by
  have j:(Txt.join ⟨#[]⟩ ls).length<=ls.length*1:=E3 (B:=1) l1;have:ls.length=(take 5 p3).1.toNat:=ll;omega
 have hok:=GT lok;generalize Txt.join ⟨#[]⟩ ls=sb at r4 hsl hok;have hf4:∀k,fw k (.frame [(cT,.bool an),(cS,.str true sb)]):=λk f hf=>.f (.k rfl .b (.k rfl .s .z));have T4:dg (C b) 4 (fb (List.range 4)) (e7 [(cT,.bool an),(cS,.str true sb)] p4 [cY]++[.list true (ls.map (V.str true))]) (·=e7 [(cT,.bool an),(cS,.str true sb)] p4 [cY]):=
  mn (c:=C b) (σ:=e7 [(cT,.bool an),(cS,.str true sb)] p4 [cY]) [.list true (ls.map (V.str true))] (s9 (show 1<4 by decide) (hf4 4) (im .ref λI m=>by cases m))
 have r4':(C b).Rs ρ3 (e7 [(cT,.bool an)] p3 [cY]) s3 ρ4 (e7 [(cT,.bool an),(cS,.str true sb)] p4 [cY]++[.list true (ls.map (V.str true))]) s4:=r4;obtain⟨ρ5,σ5,rfl,r5,_⟩:=eR.tell (c:=C b) r4' T4 (ao 4) r3.rel.len;have hf5:fw 5 (.frame [(cT,.bool an),(cS,.str true sb),(gY,.obj 4)]):=λf hf=>.f (.k rfl .b (.k rfl .s (.k rfl (.o (hf 4 ())) .z)));refine ak (sk G (tl:=[]) (rm.less ()) (en3.grow r5.grow) c5 b4 () () r5.rel (cb3.res r5) (cr3.res r5) (hf4 _) hf5 (λI m=>by cases m) λρ6 s6 r6=>?_);have t2:=jG (lim:=2) () p4;have hfl:=kh (1+(take 2 p4).1.toNat) (take 2 p4).2;have b6:=ly (jd (lim:=2) b4) (1+(take 2 p4).1.toNat);generalize d8 (1+(take 2 p4).1.toNat) (take 2 p4).2=fq at r6 hfl b6;obtain⟨fp,p6⟩:=fq;have hfl:fp.length<=2:=by rw[show fp.length=_ from hfl];omega
 have r56:=r5.trans r6;have r6':(C b).Rs ρ3 (e7 [(cT,.bool an)] p3 [cY]) s3 ρ6 (e7 [(cT,.bool an),(cS,.str true sb),(gY,.obj 4)] p6 (cY::[.list true (fp.map (db 3))])) s6:=r56;have hf6a:fw 6 (.frame [(cT,.bool an),(cS,.str true sb),(gY,.obj 4)]):=hf5.more ();have hf6:fw 6 (.frame [(cT,.bool an),(cS,.str true sb),(gY,.obj 4),(gV,.obj 5)]):=λf hf=>.f (.k rfl .b (.k rfl .s (.k rfl (.o (hf 4 ())) (.k rfl (.o (hf 5 ())) .z))));refine ak (sk G (tl:=[.list true (fp.map (db 3))]) (rm.less ()) (en3.grow r6'.grow) c6 b6 () () r6'.rel (cb3.res r6') (cr3.res r6') hf6a hf6 (im (.parts (show 3<6 by decide) _) λI m=>by cases m) λρ7 s7 r7=>?_);have t3:=jG (lim:=3) () p6;have hbl:=kh (1+(take 3 p6).1.toNat) (take 3 p6).2;have b7:=ly (jd (lim:=3) b6) (1+(take 3 p6).1.toNat);generalize d8 (1+(take 3 p6).1.toNat) (take 3 p6).2=bq at r7 hbl b7;obtain⟨bp,p7⟩:=bq;have hbl0:bp≠[]:=λz=>by
  rw[z] at hbl;simp only[bI] at hbl;omega
 have hbl:bp.length<=3:=by rw[show bp.length=_ from hbl];omega
 have r7':(C b).Rs ρ3 (e7 [(cT,.bool an)] p3 [cY]) s3 ρ7 (j5 an sb [] p7 fp bp []) s7:=r6'.trans r7;exact Dp G XFc SF HF rm (en3.grow r7'.grow) ef hfr ck hsl hok hfl hbl hbl0 b7 R0 (r3.trans r7') (cb3.res r7') q
section
set_option tactic.hygienic true
/-! the heap as a list of places -/
def Lm:Data->Bool
 | .freed=>true
 |_=>false
def qL:Nat->List Obj->Frag
 |_,[]=>[]
 |n,o::r=>match Lm o.data with
  |true=>qL (n+1) r
  |false=>(n,o)::qL (n+1) r
def vm(h:Heap):Frag:=qL 0 h.objs.toList
theorem xC:∀{l:List Obj} {n a:Nat} {o:Obj},(qL n l).lookup a=some o->∃i,a=n+i/\l[i]?=some o/\Lm o.data=false
 |[],_,_,_,h=>by cases h
 |x::r,n,a,o,h=>by
  have up:(qL (n+1) r).lookup a=some o->∃i,a=n+i/\(x::r)[i]?=some o/\Lm o.data=false:=λh=>by
   obtain⟨i,rfl,h1,h2⟩:=xC h;exact⟨i+1,by omega,h1,h2⟩
  have h:(match Lm x.data with | true=>qL (n+1) r | false=>(n,x)::qL (n+1) r).lookup a=some o:=h;cases hd:Lm x.data with
  |true=>rw[hd] at h;exact up h
  |false=>
   rw[hd] at h;have h:(match a==n with | true=>some x | false=>(qL (n+1) r).lookup a)=some o:=h;cases hb:a==n with
   |true=>
    rw[hb] at h;obtain rfl:=ac h;exact⟨0,am.mp hb,rfl,hd⟩
   |false=>rw[hb] at h;exact up h
theorem Cb(h:Heap):(vm h).In h:=λa o e=>by
 obtain⟨i,rfl,h1,h2⟩:=xC e;rw[bS];unfold Heap.get?;rw[Array.getElem?_toList] at h1;rw[h1];obtain⟨c,d,da,sl⟩:=o;cases da<;>first | rfl | exact q2 h2
def GR:Data->Option (Array Value)
 | .seq c _=>some c
 |_=>none
theorem AH{d:Data}{c:Array Value}(h:GR d=some c):∃n,d= .seq c n:=by cases d<;>cases h;exact⟨_,rfl⟩
def KY:Data->Option FuncData
 | .func c=>some c
 |_=>none
theorem G8{d:Data}{c:FuncData}(h:KY d=some c):d= .func c:=by cases d<;>cases h;rfl
def Hl:Value->Option Addr
 | .ref a=>some a
 |_=>none
theorem Ad{v:Value}{a:Addr}(h:Hl v=some a):v= .ref a:=by cases v<;>cases h;rfl
def II:Value->Option Int
 | .int a _=>some a
 |_=>none
theorem Gk{v:Value}{a:Int}(h:II v=some a):∃t,v= .int a t:=by cases v<;>cases h;exact⟨_,rfl⟩
def F8:Value->Option Str
 | .str a _=>some a
 |_=>none
theorem Am{v:Value}{a:Str}(h:F8 v=some a):∃t,v= .str a t:=by cases v<;>cases h;exact⟨_,rfl⟩
def Mz:FuncBody->Option (List Stmt)
 | .stmts b=>some b
 |_=>none
theorem Da{d:FuncBody}{b:List Stmt}(h:Mz d=some b):d= .stmts b:=by cases d<;>cases h;rfl
theorem jZ{α:Type _}{o:Option α}{p:α->Bool}(h:o.any p):∃x,o=some x/\p x=true:=(bR _ _).mp h
/-! parameters -/
def mW(fd:FuncData)(ns:List Str):Bool:=
 fd.params.posonlyargs.isEmpty&&fd.params.args.map (·.arg)==ns&&fd.params.vararg.isNone&&fd.params.kwonlyargs.isEmpty&&fd.params.kwarg.isNone
def EL(K:Frag)(fd:FuncData):Bool:=fd.defaults== .none||(Hl fd.defaults).any λT=>(K.lookup T).any λo=>(GR o.data).isSome
theorem xz{α β:Type}{f g:α->Option β}:∀{l:List α},(∀x∈l,f x=g x)->l.filterMap f=l.filterMap g
 |[],_=>rfl
 |x::l,h=>by rw[a8,a8,h x (.head _),xz λy m=>h y (.tail _ m)]
theorem mM:∀{ns:List Str} {xs:List Value},ns.length=xs.length->ns.Nodup->(ns.filterMap λn=>((ns.zip xs).lookup n).map (n,·))=ns.zip xs
 |[],[],_,_=>rfl
 |[],_::_,h,_=>by cases h
 |_::_,[],h,_=>by cases h
 |n::ns,x::xs,h,hd=>by
  obtain⟨h1,h2⟩:=List.nodup_cons.mp hd;have ih:=mM (ns:=ns) (xs:=xs) (by simpa using h) h2;rw[List.zip_cons_cons,a8,aW,bC];dsimp only[Option.map];congr 1;refine Eq.trans (xz λm hm=>?_) ih;rw[aW,show(m==n)=false from bK.mpr λz=>h1 (z▸hm)];rfl
theorem jw:∀{ns:List Str} {xs:List Value} {n:Str},ns.length=xs.length->n∈ns->((ns.zip xs).lookup n).isNone=false
 |[],_,_,_,m=>by cases m
 |_::_,[],_,h,_=>by cases h
 |k::ns,x::xs,n,h,m=>by
  rw[List.zip_cons_cons,aW];cases hb:n==k with
  |true=>rfl
  |false=>
   rcases aD.mp m with rfl | m
   .rw[bC] at hb;cases hb
   .exact jw (by simpa using h) m
theorem zb{α β:Type}{l:List α}{b:β}{f:α->β->Sem (ForInStep β)}(h:∀x∈l,f x b=pure (.yield b)):forIn l b f=pure b:=by
 induction l with
 |nil=>rw[List.forIn_nil]
 |cons x l ih=>
  rw[List.forIn_cons,h x (.head _)];exact ih λy m=>h y (.tail _ m)
nonrec theorem uc{fd:FuncData}{ns:List Str}(h:mW fd ns)(hd:ns.Nodup)(xs:List Value)(hl:xs.length=ns.length):∃k:Option (Array Value)->Sem (List (Str×Value)),bindArgs fd ⟨xs,[]⟩=seqItems? fd.defaults >>= k/\∀o,k o=pure (ns.zip xs):=by
 obtain⟨h,h5⟩:=cW h;obtain⟨h,h4⟩:=cW h;obtain⟨h,h3⟩:=cW h;obtain⟨h1,h2⟩:=cW h;have e1:fd.params.posonlyargs=[]:=by simpa using h1
 have e2:fd.params.args.map (·.arg)=ns:=am.mp h2;have e3:fd.params.vararg=none:=by simpa using h3
 have e4:fd.params.kwonlyargs=[]:=by simpa using h4
 have e5:fd.params.kwarg=none:=by simpa using h5
 have m0:∀l:List Str,(∀n∈l,n∈ns)->(l.filter λn=>((ns.zip xs).lookup n).isNone)=[]:=λl hs=>List.filter_eq_nil_iff.mpr λn m=>by rw[jw hl.symm (hs n m)];decide
 unfold bindArgs;simp only[e1,e2,e3,e4,e5,List.map_nil,cP,List.forIn_nil,hl,pure_bind];refine⟨_,rfl,λo=>?_⟩;have lp:∀(l:List Str) (ds:List Value),(∀n∈l,n∈ns)->(forIn (l.zip ds) (ns.zip xs) λx r=>(if(List.lookup x.1 r).isNone=true then pure (ForInStep.yield (r++[(x.1,x.2)])) else pure (ForInStep.yield r):Sem (ForInStep (List (Str×Value)))))=pure (ns.zip xs):=λl ds hs=>
  zb λx m=>by rw[jw hl.symm (hs x.1 (cO m).1)];rfl
 simp [m0 _ (λn m=>List.mem_of_mem_take m),mM hl.symm hd,lp _ _ (λn m=>List.mem_of_mem_drop m)]
theorem qT{fd:FuncData}{ns:List Str}(h:mW fd ns)(h0:fd.defaults= .none)(hd:ns.Nodup)(xs:List Value)(hl:xs.length=ns.length):bindArgs fd ⟨xs,[]⟩=pure (ns.zip xs):=by
 obtain⟨k,e1,e2⟩:=uc h hd xs hl;rw[e1,h0];exact e2 _
theorem BS{K:Frag}{s:Shared}{fd:FuncData}{ns:List Str}(X:K.In s.heap)(h:mW fd ns)(h0:EL K fd)(hd:ns.Nodup)(xs:List Value)(hl:xs.length=ns.length):BindsTo s fd ⟨xs,[]⟩ (ns.zip xs):=by
 cases(Bool.or_eq_true _ _).mp h0 with
 |inl e=>exact .of_eq (qT h (am.mp e) hd xs hl)
 |inr e=>
  obtain⟨T,e,h0⟩:=jZ e;obtain⟨o,hk,h0⟩:=jZ h0;obtain⟨z',hs⟩:=Option.isSome_iff_exists.mp h0;obtain⟨n,hs⟩:=AH hs;obtain⟨k,e1,e2⟩:=uc h hd xs hl;exact .of_defaults (Ad e) (X _ _ hk) hs e1 (e2 _)
/-! the functions -/
def sP(K:Frag)(f:Addr)(ps:List Nm)(body:List MS)(more:FuncData->List Stmt->Bool):Bool:=(K.lookup f).any λo=>(KY o.data).any λfd=>fd.scope.kind== .function&& !fd.scope.isCoroutine&& !fd.scope.isGenerator&&fd.globals==mainGlobals&&fd.builtins==builtinsNs&&codeIn K fd.code fd.qualname&&
   fd.scope.names.all (λx=>x.2 != .cell)&&ps.all (λn=>fd.scope.names.lookup (nmT n)==some .local)&&mW fd (ps.map nmT)&&EL K fd&&decide ps.Nodup&&
   (Mz fd.body).any λb=>iT nmT fd.scope body b&&more fd b
theorem tI(inj:∀i j,nmT i=nmT j->i=j){ps:List Nm}(h:ps.Nodup):(ps.map nmT).Nodup:=List.Pairwise.map nmT (λa b ne e=>ne (inj a b e)) h
nonrec theorem m7{b:Bs}{f:Addr}{ps:List Nm}{body:List MS}{more:FuncData->List Stmt->Bool}(inj:∀i j,nmT i=nmT j->i=j)(h:sP b.K f ps body more):∃fd bd,tW (C b) f ps body fd bd/\more fd bd=true:=by
 obtain⟨o,hf,h⟩:=jZ h;obtain⟨fd,hd,h⟩:=jZ h;obtain⟨h,h11⟩:=cW h;obtain⟨h,h10⟩:=cW h;obtain⟨h,h9d⟩:=cW h;obtain⟨h,h9⟩:=cW h;obtain⟨h,h8⟩:=cW h;obtain⟨h,h7⟩:=cW h;obtain⟨h,h6⟩:=cW h;obtain⟨h,h5⟩:=cW h;obtain⟨h,h4⟩:=cW h;obtain⟨h,h3⟩:=cW h;obtain⟨h1,h2⟩:=cW h;obtain⟨bd,hb,h11⟩:=jZ h11;obtain⟨k1,k2⟩:=cW h11;have nd:=aS h10;have hf:∃c d sl,b.K.lookup f=some ⟨c,d,.func fd,sl⟩:=⟨o.cls,o.dict,o.slots,by rw[hf,<-G8 hd]⟩
 exact⟨fd,bd,⟨hf,am.mp h1,mv h2,mv h3,am.mp h4,am.mp h5,h6,λx m=>bne_iff_ne.mp (aT.mp h7 x m),λn m=>am.mp (aT.mp h8 n m),λs X xs hl=>BS X h9 h9d (tI inj nd) xs (by rw[hl,af]),nd,Da hb,k1⟩,k2⟩
/-! names of the program's own module -/
mutual
noncomputable def GH(K:Frag):V->Value->Bool
 | .none,x=>x== .none
 | .bool b,x=>x== .bool b
 | .int _ i,x=>II x==some i
 | .str _ s,x=>F8 x==some s
 | .tup vs,x=>(Hl x).any λa=>(K.lookup a).any λo=>o.cls== .type "tuple"&&(GR o.data).any λz'=>xO K vs z'.toList
 | .obj _,_=>false
 | .val y,x=>x==y&&wV y
 | .bi k,x=>x==mj k
noncomputable def xO(K:Frag):List V->List Value->Bool
 |[],xs=>xs.isEmpty
 |v::vs,xs=>match xs with
  |x::xs=>GH K v x&&xO K vs xs
  |[]=>false
end
mutual
theorem Aw{K:Frag}{h:Heap}(X:K.In h):∀{v:V} {x:Value},GH K v x=true->dH [] h v x
 | .none,x,e=>(am (a:=x) (b:=.none)).mp e
 | .bool b,x,e=>(am (a:=x) (b:=.bool b)).mp e
 | .int _ i,x,e=>Gk ((am (a:=II x) (b:=some i)).mp e)
 | .str _ s,x,e=>Am ((am (a:=F8 x) (b:=some s)).mp e)
 | .tup vs,x,e=>by
  have e:((Hl x).any λa=>(K.lookup a).any λo=>o.cls== .type "tuple"&&(GR o.data).any λz'=>xO K vs z'.toList)=true:=e;obtain⟨a,ha,e⟩:=jZ e;obtain⟨o,hf,e⟩:=jZ e;obtain⟨e1,e⟩:=cW e;obtain⟨z',hs,e⟩:=jZ e;obtain⟨n,hs⟩:=AH hs;exact⟨a,z'.toList,Ad ha,⟨_,X _ _ hf,am.mp e1,n,by rw[hs,Array.toArray_toList]⟩,wf X e⟩
 | .obj _,x,e=>q3 e
 | .val y,x,e=>by
  obtain⟨e1,e2⟩:=cW (show(x==y&&wV y)=true from e);exact⟨am.mp e1,e2⟩
 | .bi k,x,e=>(am (a:=x) (b:=mj k)).mp e
theorem wf{K:Frag}{h:Heap}(X:K.In h):∀{vs:List V} {xs:List Value},xO K vs xs=true->dy [] h vs xs
 |[],xs,e=>by
  cases xs with
  |nil=>rfl
  |cons _ _=>cases e
 |v::vs,xs,e=>by
  cases xs with
  |nil=>cases e
  |cons x xs=>
   obtain⟨e1,e2⟩:=cW (show(GH K v x&&xO K vs xs)=true from e);exact⟨x,xs,rfl,Aw X e1,wf X e2⟩
end
def xI(K:Frag)(mg:Str->Option Value)(p:Nat×V):Bool:=match mg (nmT p.1) with
 |some x=>GH K p.2 x
 |none=>match p.2 with
  | .bi k=>bootBuiltins (nmT p.1)==some (mj k)&&nmT p.1 != ("__name__":Str)
  |_=>false
theorem C4{K:Frag}{h:Heap}{mg mb:Str->Option Value}(X:K.In h)(hb:∀x:Str,x≠"__name__"->mb x=bootBuiltins x){n:Nat}{v:V}(e:xI K mg (n,v)):∃x,(mg (nmT n)=some x\/(mg (nmT n)=none/\mb (nmT n)=some x))/\dH [] h v x:=by
 unfold xI at e
 split at e
 .rename_i x hx
  exact⟨x,.inl hx,Aw X e⟩
 .rename_i hx
  split at e
  .rename_i k hv
   obtain⟨e1,e2⟩:=cW e;have hv:v= .bi k:=hv;subst hv;refine⟨mj k,.inr ⟨hx,?_⟩,rfl⟩;rw[hb _ (by simpa using e2)];exact am.mp e1
  .cases e
theorem iV{α:Type}:∀{l:List (Nat×α)} {n:Nat} {v:α},jy n l=some v->(n,v)∈l
 |(k,w)::l,n,v,h=>by
  have h:(match Nat.beq k n with | true=>some w | false=>jy n l)=some v:=h;cases e:Nat.beq k n with
  |true=>
   rw[e] at h;rw[aP e,ac h];exact .head _
  |false=>rw[e] at h;exact .tail _ (iV h)
end
def yg(s:Str):List Str->Bool
 |[]=>true
 |t::l=> !(s==t)&&yg s l
def yG:List Str->Bool
 |[]=>true
 |s::l=>s.cps.toList.all (λc=>Nat.blt c 2000000)&&yg s l&&yG l
theorem pR{s:Str}:∀{l:List Str},yg s l=true->s∉l
 |[],_,m=>by cases m
 |t::l,h,m=>by
  obtain⟨a,b⟩:=cW h;rcases aD.mp m with rfl | m
  .simp at a
  .exact pR b m
theorem tZ:∀{l:List Str},yG l=true->(∀i j s,nth l i=some s->nth l j=some s->i=j)/\∀i s,nth l i=some s->∀c∈s.cps.toList,c<2000000
 |[],_=>⟨λi j s h=>(by cases h),λi s h=>(by cases h)⟩
 |t::l,h=>by
  obtain⟨h,c⟩:=cW h;obtain⟨a,b⟩:=cW h;obtain⟨k1,k2⟩:=tZ c;have mem:∀{i s},nth l i=some s->s∈l:=λ{i s} e=>by rw[dP] at e;exact List.mem_of_getElem? e
  refine⟨λi j s hi hj=>?_,λi s hi=>?_⟩
  .cases i with
   |zero=>
    cases j with
    |zero=>rfl
    |succ j=>cases hi;exact absurd (mem hj) (pR b)
   |succ i=>
    cases j with
    |zero=>cases hj;exact absurd (mem hi) (pR b)
    |succ j=>rw[k1 i j s hi hj]
  .cases i with
   |zero=>
    cases hi;intro c m;have:=aT.mp a c m;exact aV this
   |succ i=>exact k2 i s hi
theorem ww:yG wg:=by walk_at"k"
theorem nA:∀i j,nmT i=nmT j->i=j:=by
 obtain⟨k1,k2⟩:=tZ ww;intro i j e;unfold nmT at e;cases hi:nth wg i with
 |some s=>
  cases hj:nth wg j with
  |some t=>
   rw[hi,hj] at e;have e:s=t:=e;subst e;exact k1 i j s hi hj
  |none=>
   rw[hi,hj] at e;have e:s=⟨#[2000000+j]⟩:=e;subst e;have:=k2 i _ hi (2000000+j) (.head _);omega
 |none=>
  cases hj:nth wg j with
  |some t=>
   rw[hi,hj] at e;have e:⟨#[2000000+i]⟩=t:=e;subst e;have:=k2 j _ hj (2000000+i) (.head _);omega
  |none=>
   rw[hi,hj] at e;have e:(⟨#[2000000+i]⟩:Str)=⟨#[2000000+j]⟩:=e;injection e with e;injection e with e;injection e with e;omega
def yp(K:Frag):Bool:=
 HW.all (λp=>sP K p.1 p.2.1 p.2.2 λI I=>true)&&
 sH.all (λp=>pA K p.1&&tB K p.1 "__init__" p.2.1&&keepIn K (.ref p.1)&&p.2.2.all (λq=>tB K p.1 (nmT q.1) q.2))&&
 vX.all (λp=>pA K p.1&&p.2.all (λn=>CW K p.1 (nmT n)))
theorem F3{b:Bs}(X:b.K.In b.h₀)(g:b.h₀.Ns mainGlobals b.mg)(hb:b.h₀.Ns builtinsNs b.mb)(lim:b.h₀.NoLimit)(bt:∀x:Str,x≠"__name__"->b.mb x=bootBuiltins x)(h1:yp b.K)(h2:Ag.all (xI b.K b.mg)):dI b:=by
 obtain⟨h,h3⟩:=cW h1;obtain⟨h4,h5⟩:=cW h;have h4:=aT.mp h4;have h5:=aT.mp h5;have h3:=aT.mp h3;have h2:=aT.mp h2;refine⟨⟨X,g,hb,lim,nA,λn v e=>C4 X bt (h2 (n,v) (iV e)),λCc f e=>?_,λCc n f e=>?_,λCc n e=>?_⟩,⟨λf ps body e=>?_⟩⟩
 .have e:(match jy Cc sH with | some (i,_)=>(match i with | 0=>none | i+1=>some (i+1)) | none=>none)=some f:=e
  cases q:jy Cc sH with
  |none=>rw[q] at e;cases e
  |some p=>
   obtain⟨i,ms⟩:=p;rw[q] at e;have m:=h5 (Cc,i,ms) (iV q);obtain⟨m,m4⟩:=cW m;obtain⟨m,m3⟩:=cW m;obtain⟨m1,m2⟩:=cW m;cases i with
   |zero=>cases e
   |succ i=>cases e;exact⟨m1,m2,m3⟩
 .have e:(match jy Cc sH with | some (_,l)=>jy n l | none=>none)=some f:=e
  cases q:jy Cc sH with
  |none=>rw[q] at e;cases e
  |some p=>
   obtain⟨i,ms⟩:=p;rw[q] at e;have m:=h5 (Cc,i,ms) (iV q);obtain⟨m,m4⟩:=cW m;obtain⟨m,m3⟩:=cW m;obtain⟨m1,m2⟩:=cW m;exact⟨m1,aT.mp m4 (n,f) (iV e)⟩
 .have e:(match jy Cc vX with | some l=>Bh n l | none=>false)=true:=e
  cases q:jy Cc vX with
  |none=>rw[q] at e;cases e
  |some l=>
   rw[q] at e;obtain⟨m1,m2⟩:=cW (h3 (Cc,l) (iV q));exact⟨m1,aT.mp m2 n (rY e)⟩
 .obtain⟨fd,bd,K,_⟩:=m7 (b:=b) nA (h4 (f,ps,body) (iV e))
  exact⟨fd,bd,K⟩
section
set_option tactic.hygienic true
def K4:Data->Option ClassData
 | .cls c=>some c
 |_=>none
theorem Fz{d:Data}{c:ClassData}(h:K4 d=some c):d= .cls c:=by cases d<;>cases h;rfl
def K5:Data->Option (Array Value)
 | .fields c=>some c
 |_=>none
theorem G6{d:Data}{c:Array Value}(h:K5 d=some c):d= .fields c:=by cases d<;>cases h;rfl
def La:Data->Option Value
 | .cell c=>c
 |_=>none
theorem HA{d:Data}{c:Value}(h:La d=some c):d= .cell (some c):=by cases d<;>cases h;rfl
theorem uw{α:Type _}:∀{l:List α} {n:Nat},l.length=n+1->∃a r,l=a::r/\r.length=n
 |a::r,_,h=>⟨a,r,rfl,Nat.succ.inj h⟩
theorem IS{l:List (Option Value)}(h:l.length=6):∃a b c d e f,l=[a,b,c,d,e,f]:=by
 obtain⟨a,l1,e1,h1⟩:=uw h;obtain⟨b,l2,e2,h2⟩:=uw h1;obtain⟨c,l3,e3,h3⟩:=uw h2;obtain⟨d,l4,e4,h4⟩:=uw h3;obtain⟨e,l5,e5,h5⟩:=uw h4;obtain⟨f,l6,e6,h6⟩:=uw h5;exact⟨a,b,c,d,e,f,by rw[e1,e2,e3,e4,e5,e6,List.eq_nil_of_length_eq_zero h6]⟩
def Mj(o:Obj)(cd:ClassData):Bool:=o.cls== .type "type"&&cd.mro== .ref 120::Fi&&cd.ns==119&&cd.hasDict&& !cd.hasDel&&Nat.beq o.slots.toList.length 6&&o.slots.toList[4]?==some (some (.builtin "Exception.__new__"))
def AB(K:Frag):Bool:=(K.lookup 120).any λo=>(K4 o.data).any (Mj o)
theorem yC{K:Frag}(h:AB K):∃xc:yY,K.lookup 120=some (xc.o 120 119 Fi true "Exception.__new__"):=by
 obtain⟨o,hf,h⟩:=(bR _ _).mp h;obtain⟨cd,hd,h⟩:=(bR _ _).mp h;have a:=cW h;have b:=cW a.1;have c:=cW b.1;have d:=cW c.1;have e:=cW d.1;have f:=cW e.1;obtain⟨oc,od,da,⟨sl⟩⟩:=o;obtain⟨nm,bs,mro,ns,q,hdct,sn,sub,ab,col,hdel⟩:=cd;obtain⟨k0,k1,k2,k3,k4,k5,rfl⟩:=IS (aP b.2);have h4:k4=some (.builtin "Exception.__new__"):=ac (am.mp a.2);refine⟨⟨nm,q,bs,sn,sub,ab,col,od,k0,k1,k2,k3,k5⟩,hf.trans (az some ?_)⟩;rw[show oc=_ from am.mp f.1,show da=_ from Fz hd,show mro=_ from am.mp f.2,show ns=_ from am.mp e.2,show hdct=true from d.2,show hdel=false from mv c.2,h4]
def Fg(K:Frag)(mf:Str)(fd:FuncData)(b:List Stmt):Bool:=
 Fj fd.scope (.cons HU .any) b&&fd.closure==[(("__class__":Str),104)]&&fd.scope.names.lookup ("super":Str)==some .globalImplicit&&fd.scope.names.lookup ("__class__":Str)==some .free&&
 ((fd.params.posonlyargs++fd.params.args).head?.any λar=>ar.arg==nmT cV)&&fd.code== .ref 116&&
 (K.lookup 116).any λo=>(K5 o.data).any λvs=>(vs[2]?:Option Value).any λv=>(F8 v).any λf=>mf==f
def MC(mN:Str->Option Value):Bool:=
 mN "__init__"==some (.ref 117)&&(mN "__setattr__").isNone&&(mN (nmT dX)).isNone&&(mN (nmT dN)).isNone&&(mN "__getattribute__").isNone&&(mN "__getattr__").isNone
def LW(mg:Str->Option Value):Bool:=(mg "super").isNone&&mg "SnobolError"==some (.ref 120)
def yc(K:Frag)(mf:Str):Bool:=
 AB K&&nsIn K cStatics "thirdparty.any"==some none&&sP K 117 [cV,dX,dN] H8 (Fg K mf)&&
 ((K.lookup 117).any λo=>o.cls== .type "function")&&((K.lookup 104).any λo=>La o.data==some (.ref 120))&&
 sP K 573 [cV] gf (λfd=>Fj fd.scope u2)&&sP K 676 [dR,cU,cS,cT,dJ] gl λfd=>Fj fd.scope (.l [.any,xp,.any,te])
theorem Gc:typeLookup (.type "Exception") (nmT dX)=pure none:=by rw[typeLookup_type,builtinLookup_eq_fast];kernel_rfl
theorem Dm:typeLookup (.type "Exception") (nmT dN)=pure none:=by rw[typeLookup_type,builtinLookup_eq_fast];kernel_rfl
theorem zK:bootBuiltins "super"=some (.type "super"):=by kernel_rfl
theorem IF{b:Bs}{mN:Str->Option Value}(h2:yc b.K b.prog.main.file)(hN:b.h₀.Ns 119 mN)(hn:MC mN)(hm:LW b.mg)(bt:∀x:Str,x≠"__name__"->b.mb x=bootBuiltins x)(ht:(b.prog.main.scope.names.lookup ("super":Str)).isSome=false):XF (C b)/\oU (C b)/\mt (C b):=by
 obtain⟨h,f7⟩:=cW h2;obtain⟨h,f6⟩:=cW h;obtain⟨h,f5⟩:=cW h;obtain⟨h,f4⟩:=cW h;obtain⟨h,f3⟩:=cW h;obtain⟨f1,f2⟩:=cW h;obtain⟨h,n6⟩:=cW hn;obtain⟨h,n5⟩:=cW h;obtain⟨h,n4⟩:=cW h;obtain⟨h,n3⟩:=cW h;obtain⟨n1,n2⟩:=cW h;obtain⟨m1,m2⟩:=cW hm;have no:∀{o:Option Value},o.isNone=true->o=none:=λ{o} e=>by simpa using e
 refine⟨⟨yC f1,⟨mN,hN,am.mp n1,no n2,no n3,no n4⟩,⟨mN,hN,no n3,no n5,no n6⟩,am.mp f2,Gc,Dm,?_,λo e=>?_,?_,ht,⟨no m1,?_⟩,am.mp m2⟩,?_,?_⟩
 .obtain⟨fd,bd,K,mo⟩:=m7 (b:=b) nA f3
  obtain⟨mo,g7⟩:=cW mo;obtain⟨mo,g6⟩:=cW mo;obtain⟨mo,g5⟩:=cW mo;obtain⟨mo,g4⟩:=cW mo;obtain⟨mo,g3⟩:=cW mo;obtain⟨g1,g2⟩:=cW mo;refine⟨fd,bd,K,g1,am.mp g2,am.mp g3,am.mp g4,?_,?_⟩
  .obtain⟨ar,e,z⟩:=(bR _ _).mp g5
   exact⟨ar,e,am.mp z⟩
  .obtain⟨o,hk,z⟩:=(bR _ _).mp g7
   obtain⟨vs,hd,w⟩:=(bR _ _).mp z;clear z;obtain⟨co,cd,da,sl⟩:=o;obtain rfl:=G6 hd;obtain⟨v,hv,w⟩:=jZ w;obtain⟨file,hf,w⟩:=jZ w;obtain⟨tf,hf⟩:=Am hf;exact⟨vs,file,tf,co,cd,sl,am.mp g6,hk,hf▸hv,w⟩
 .obtain⟨o',e',z⟩:=(bR _ _).mp f4
  cases e'.symm.trans (show b.K.lookup 117=some o from e);exact am.mp z
 .obtain⟨o,hk,z⟩:=(bR _ _).mp f5
  obtain⟨co,cd,da,sl⟩:=o;obtain rfl:=HA (am.mp z);exact⟨co,cd,sl,hk⟩
 .show b.mb "super"=_
  rw[bt _ ()];exact zK
 .exact m7 (b:=b) nA f6
 .exact m7 (b:=b) nA f7
end
section
set_option tactic.hygienic true
theorem tz(x:Str)(k:NameKind)(r:List (Str×NameKind))(n:Nat)(B':List (Str×Addr)):cellsFrom n ((x,k)::r) B'=if k== .cell then cellsFrom (n+1) r ((x,n)::B') else cellsFrom n r B':=by
 rw[cellsFrom]
theorem lL:∀(names:List (Str×NameKind)) (n:Nat) (B':List (Str×Addr)),cellsFrom n names B'=cellsFrom n (names.filter λx=>x.2== .cell) B'
 |[],_,_=>rfl
 |(x,k)::r,n,B'=>by
  rw[List.filter_cons,tz];dsimp only;cases hk:k==NameKind.cell with
  |true=>rw[if_pos rfl,if_pos rfl,tz,hk,if_pos rfl];exact lL r _ _
  |false=>rw[if_neg (),if_neg ()];exact lL r _ _
def EZ(fd:FuncData):Bool:=
 fd.scope.kind== .function&& !fd.scope.isCoroutine&& !fd.scope.isGenerator&&fd.globals==mainGlobals&&fd.builtins==builtinsNs&&fd.closure.isEmpty&&(mW fd [nmT eM]&&fd.defaults== .none)&&fd.scope.names.lookup (nmT eM)==some .local&&
 (fd.scope.names.filter λx=>x.2== .cell)==[(nmT ey,.cell),(nmT eH,.cell)]&&
 (Mz fd.body).any λbd=>Fj fd.scope C9 bd
nonrec theorem FY{b:Bs}{a S:Addr}{o:Obj}{fd:FuncData}{xs:List Int}{Q E:Value->Shared->Prop}(G:dI b)(XFc:XF (C b))(SF:oU (C b))(HF:mt (C b)){s:Shared}(hh:b.h₀=s.heap)(ho:s.heap.get? a=some o)(hd:o.data= .func fd)(hc:s.heap.CodeRec fd.code fd.qualname)(hl:EZ fd)(sc:DL s.heap S xs)(hx:xs.length<=100)(q:∀s',(∀b o,s.heap.get? b=some o->s'.heap.get? b=some o)->s'.os=s.os->s'.gens=s.gens->Q (.bool true) s'):wpAny (C b).M callerA (call (.ref a) [.ref S]) Q E s:=by
 obtain⟨hl,f10⟩:=cW hl;obtain⟨hl,f9⟩:=cW hl;obtain⟨hl,f8⟩:=cW hl;obtain⟨hl,f7⟩:=cW hl;obtain⟨hl,f6⟩:=cW hl;obtain⟨hl,f5⟩:=cW hl;obtain⟨hl,f4⟩:=cW hl;obtain⟨hl,f3⟩:=cW hl;obtain⟨f1,f2⟩:=cW hl;have f1:=am.mp f1;have f4:=am.mp f4;have f5:=am.mp f5;have f8:=am.mp f8;have f9:=am.mp f9;obtain⟨bd,hbd,f10⟩:=jZ f10;have hbd:=Da hbd;have nd:[nmT eM].Nodup:=by simp
 have hcells:cellsFrom (s.heap.objs.size+1) fd.scope.names []=[(nmT eH,s.heap.objs.size+2),(nmT ey,s.heap.objs.size+1)]:=by
  rw[lL,f9];rfl
 have nbr:(nmT ey==nmT eH)=false:=bK.mpr λz=>by have:=nA _ _ z;cases this
 refine cR (codeAny_call_cells (by decide+kernel) ho hd (hh▸G.X.lim) hc hbd (qT (cW f7).1 (am.mp (cW f7).2) nd [.ref S] rfl) (by simpa using f6) (λx m=>?_) (λs₁ X=>?_) (by simpa using f2) (by simpa using f3) f1)
 .cases aj.mp m
  exact .inl f8
 .-- the state at the body's begin
  have hL:(callEnvC fd s.heap.objs.size a).locals=s.heap.objs.size:=rfl;obtain⟨h₁,tk,e₁⟩:=X.toInCall.same;have kp:=X.toInCall.keep;have hns:s₁.heap.Ns s.heap.objs.size λy=>if y=nmT eM then some (.ref S) else none:=by
   have:=X.toInCall.ns;rw[hL] at this;have e:bindL (callEnvC fd s.heap.objs.size a).kindOf ([nmT eM].zip [Value.ref S]) (λI=>none)=λy=>if y=nmT eM then some (.ref S) else none:=by
    show bindL _ [(nmT eM,Value.ref S)] _=_;unfold bindL;rw[if_pos (show(callEnvC fd s.heap.objs.size a).kindOf (nmT eM)=some .local from f8)];rfl
   rw[e] at this;exact this
  have R0:(C b).R [] [] s.heap:=⟨rfl,(λi b o e=>by cases e),(λi j a b o o' e=>by cases e),(λx m=>by cases m),(λb' o' e=>by have e:b.h₀.get? b'=some o':=e;rw[hh] at e;exact e)⟩
  have fE:s.heap.get? s.heap.objs.size=none:=fA s;have r0:(C b).Rs [] [] s ([]++[s.heap.objs.size]) ([]++[.frame (ib S)]) s₁:=by
   refine eR.pushC (o:=.frame (ib S)) R0 kp (λx m=>by cases aj.mp m;exact fE) ⟨_,hns,λn v e=>?_⟩ (by rw[e₁]) (by rw[e₁]) (by
    obtain⟨o,es,ep,h,_⟩:=hns;exact aZ (ay h))
   cases hb:Nat.beq eM n with
   |true=>
    have e:(match Nat.beq eM n with | true=>some (V.val (.ref S)) | false=>none)=some v:=e;rw[hb] at e;obtain rfl:=ac e;exact⟨.ref S,if_pos (az nmT (aP hb).symm),rfl,rfl⟩
   |false=>
    have e:(match Nat.beq eM n with | true=>some (V.val (.ref S)) | false=>none)=some v:=e;rw[hb] at e;cases e
  have r0:(C b).Rs [] [] s [s.heap.objs.size] [.frame (ib S)] s₁:=r0;obtain⟨z',⟨oS,hoS,rS⟩,vS⟩:=sc;have ltS:=ay hoS;have feet1:∀{x:Addr},x≠s.heap.objs.size->x∉dA [s.heap.objs.size] [.frame (ib S)]:=λ{x} ne m=>by
   obtain⟨i,a',o',e1,e2,m⟩:=dC.mp m;cases i with
   |zero=>cases e1;cases e2;exact ne (aj.mp m)
   |succ i=>cases e1
  have noneAt:∀k,s.heap.get? (s.heap.objs.size+k)=none:=λk=>by
   cases q:s.heap.get? (s.heap.objs.size+k) with
   |none=>rfl
   |some o=>exact absurd (ay q) (cF.mpr (aA _ _))
  have cellN:∀n c,(callEnvC fd s.heap.objs.size a).cells.lookup n=some c->s₁.heap.IsCell c none:=λn c h=>by
   have:=X.cell n c h;have e:bindC (callEnvC fd s.heap.objs.size a).kindOf ([nmT eM].zip [Value.ref S]) (λI=>none)=λI=>none:=by
    show bindC _ [(nmT eM,Value.ref S)] _=_;unfold bindC;rw[if_pos (show(callEnvC fd s.heap.objs.size a).kindOf (nmT eM)=some .local from f8)];rfl
   rw[e] at this;exact this
  have lb:(callEnvC fd s.heap.objs.size a).cells.lookup (nmT ey)=some (s.heap.objs.size+1):=by
   show(cellsFrom (s.heap.objs.size+1) fd.scope.names []).lookup _=_;rw[hcells,aW,nbr];dsimp only;rw[aW,bC]
  have lr:(callEnvC fd s.heap.objs.size a).cells.lookup (nmT eH)=some (s.heap.objs.size+2):=by
   show(cellsFrom (s.heap.objs.size+1) fd.scope.names []).lookup _=_;rw[hcells,aW,bC]
  have rm:ee (callerA.deeper (callEnvC fd s.heap.objs.size a)) 300:=⟨(show 1+claimMargin+1+300<recursionLimit by decide+kernel),(show 4+3+8*300<cLine by decide+kernel),rfl⟩
  refine DQ (S:=S) (cb:=s.heap.objs.size+1) (cr:=s.heap.objs.size+2) G XFc SF HF rm ⟨f1,rfl,f4,f5⟩ rfl (Around.frames_deeper rfl) f10 ⟨z',⟨oS,kp _ _ hoS,rS⟩,vS⟩ hx R0 r0 (feet1 (bG ltS)) lb (cellN _ _ lb) (feet1 (Nat.succ_ne_self _)) (noneAt 1) lr (cellN _ _ lr) (feet1 (Nat.ne_of_gt (Nat.lt_succ_of_lt (aX _)))) (noneAt 2) (bG (aX _)) (bG (Nat.lt_succ_of_lt ltS)) λρ' s' σ' r=>?_;exact q s' (λb o e=>r.keep b o e λm=>by cases m) r.os r.gens
end
theorem t6{R:WRecords}:∀{xs:List WData},WShape.hasItems R xs .int=true->∃ns:List Int,xs=ns.map WData.int
 |[],_=>⟨[],rfl⟩
 |x::xs,h=>by
  obtain⟨h1,h2⟩:=cW (show(WShape.has R x .int&&WShape.hasItems R xs .int)=true from h);obtain⟨ns,rfl⟩:=t6 h2;cases x with
  |int i=>exact⟨i::ns,rfl⟩
  |_=>cases h1
nonrec theorem Et{l:OpenLaw}(hm:l.most=some 63){args:List WData}(h:l.row.toRowW.claim.pre args):∃ns:List Int,args=[.list (ns.map .int)]/\ns.length<=63:=by
 obtain⟨h1,h2⟩:=pre_splitW h;have h1:WShape.hasAll [] args [.list .int]:=h1;cases args with
 |nil=>cases h1
 |cons a r=>
  obtain⟨g1,h4⟩:=cW (show(WShape.has [] a (.list .int)&&WShape.hasAll [] r [])=true from h1);cases r with
  |cons b r=>cases(cW (show(false&&false)=true from h4)).1
  |nil=>
   cases a with
   |list xs=>
    have h3:WShape.hasItems [] xs .int:=(Bool.or_false _).symm.trans g1;obtain⟨ns,rfl⟩:=t6 h3;refine⟨ns,rfl,?_⟩;have h2:l.pre.holds [] {args:=[.list (ns.map .int)]}=true:=h2;unfold OpenLaw.pre at h2;rw[hm] at h2
    by_cases hle:ns.length<=63
    .exact hle
    .exfalso
     revert h2;have hlt:(63:Int)<(ns.length:Int):=by omega
     have e:less? (WData.int 63) (WData.int (ns.length:Int))=some true:=by
      simp [less?,Num.less?,hlt]
     simp [WTm.holds,WTm.value,e]
   |_=>cases g1
def LF(mf:Str)(mg:Str->Option Value)(h:Heap):Prop:=∃K:Frag,K.In h/\yp K=true/\yc K mf=true/\Ag.all (xI K mg)=true/\LW mg=true/\∃mN,h.Ns 119 mN/\MC mN=true
def X1(s:Shared):Bool:=yp (vm s.heap)
def X2(mf:Str)(s:Shared):Bool:=
 yc (vm s.heap) mf&&Ag.all (xI (vm s.heap) (s.heap.nsMap mainGlobals))&&LW (s.heap.nsMap mainGlobals)&&s.heap.isNs 119&&MC (s.heap.nsMap 119)
def Xt(mf:Str)(s:Shared):Bool:=X1 s&&X2 mf s
theorem LF.of{mf:Str}{s:Shared}(h:Xt mf s):LF mf (s.heap.nsMap mainGlobals) s.heap:=by
 obtain⟨f1,h⟩:=cW h;obtain⟨h,f6⟩:=cW h;obtain⟨h,f5⟩:=cW h;obtain⟨h,f4⟩:=cW h;obtain⟨f2,f3⟩:=cW h;exact⟨_,Cb _,f1,f2,f3,f4,_,Heap.Ns.of_isNs f5,f6⟩
theorem LF.keeps{mf:Str}{mg:Str->Option Value}{h h':Heap}(x:LF mf mg h)(k:∀b o,h.get? b=some o->h'.get? b=some o):LF mf mg h':=by
 obtain⟨K,k1,k2,k3,k4,k5,mN,k6,k7⟩:=x;exact⟨K,k1.keeps k,k2,k3,k4,k5,mN,k6.keeps k,k7⟩
def IR(d:DefRec):Bool:=
 d.scope.kind== .function&& !d.scope.isCoroutine&& !d.scope.isGenerator&&d.params.posonlyargs.isEmpty&&d.params.args.map (·.arg)==[nmT eM]&&d.params.vararg.isNone&&d.params.kwonlyargs.isEmpty&&d.params.kwarg.isNone&&d.params.defaults.isEmpty&&
 d.scope.names.lookup (nmT eM)==some .local&&(d.scope.names.filter λx=>x.2== .cell)==[(nmT ey,.cell),(nmT eH,.cell)]&&Fj d.scope C9 d.body
theorem EX{d:DefRec}{pm cd doc dV kV:Value}{mg:Str->Option Value}{h:Heap}{kwd:List (Str×Expr)}(e:IR d)(D:Dflts mg h d.params kwd dV kV):EZ {docDef d.name d.params d.body d.scope pm cd doc with defaults:=dV,kwdefaults:=kV}=true:=by
 obtain⟨e,f12⟩:=cW e;obtain⟨e,f11⟩:=cW e;obtain⟨e,f10⟩:=cW e;obtain⟨e,f9⟩:=cW e;obtain⟨e,f8⟩:=cW e;obtain⟨e,f7⟩:=cW e;obtain⟨e,f6⟩:=cW e;obtain⟨e,f5⟩:=cW e;obtain⟨e,f4⟩:=cW e;obtain⟨e,f3⟩:=cW e;obtain⟨f1,f2⟩:=cW e;obtain rfl:=D.none (by simpa using f9);unfold EZ mW docDef;dsimp only;rw[f1,f2,f3,f4,f5,f6,f7,f8,f10,f11];exact f12
theorem CL{R:WRecords}{cl:Str->Option Addr}{h:Heap}:∀{z':List Value} {ns:List Int} {as:List Addr},ReadsAllW R cl h z' (ns.map WData.int) as->∀ρ h',dy ρ h' (ns.map (V.int true)) z'
 |z',[],as,r=>by cases r;exact λI I=>.nil
 |z',n::ns,as,r=>by
  cases r with
  |cons r1 r2=>
   cases r1 with
   |int i t=>exact λρ h'=>.cons ⟨t,rfl⟩ (CL r2 ρ h')
theorem EC(l:OpenLaw)(args ds:List WData):l.row.toRowW.claim.post args (.bool true) ds:=by
 show(WShape.has [] (.bool true) .bool&&WTm.holds [] (.eq .res (.lit (.bool true))) {args:=args,res:=some (.bool true),after:=ds})=true
 walk_at"k"
theorem C7{R:WRecords}{cl:Str->Option Addr}{h:Heap}{vals:List Value}{ns:List Int}{as:List Addr}(rd:ReadsAllW R cl h vals [.list (ns.map .int)] as):∃S,vals=[.ref S]/\DL h S ns:=by
 cases rd with
 |cons r1 r2=>
  cases r2;cases r1 with
  |list h1 h2 h3 h4=>exact⟨_,rfl,_,⟨_,h1,h2,_,by rw[h3,Array.toArray_toList]⟩,CL h4⟩
theorem Fd{l:OpenLaw}(hm:l.most=some 63){q:Program}{loose:List Str}{d:DefRec}{kwd:List (Str×Expr)}(hd:IR d)(ht:(l.prog.main.scope.names.lookup ("super":Str)).isSome=false):
  WalkX q loose (LF l.prog.main.file) (λI=>Unit.unit) (λI=>Unit.unit) l.row.toRowW d kwd λf vs=>PySem.call f vs:=by
 intro w s₀ s₁ mg mb Gr _ a o pm cd doc dV kV ho hdat hc D hmg hg args vals as L hpre hlay rd wl _;obtain⟨ns,rfl,hlen⟩:=Et hm hpre;obtain⟨K,k1,k2,k3,k4,k5,mN,k6,k7⟩:=Gr.X;have bt:=Gr.T.builtins;have G:dI ⟨l.prog,w,K,s₁.heap,mg,mb⟩:=F3 (b:=⟨l.prog,w,K,s₁.heap,mg,mb⟩) k1 Gr.T.g Gr.T.b Gr.T.nolimit bt k2 k4;obtain⟨e1,e2,e3⟩:=IF (b:=⟨l.prog,w,K,s₁.heap,mg,mb⟩) k3 k6 k7 k5 bt ht;obtain⟨S,rfl,sc⟩:=C7 rd;refine FY (b:=⟨l.prog,w,K,s₁.heap,mg,mb⟩) G e1 e2 e3 rfl ho hdat hc (EX hd D) sc (by omega) λs' kp ho' hg'=>?_;exact⟨.inl ⟨.bool true,.bool true,[],rfl,λI=>rfl,.bool true,EC l _ _,λI=>⟨List.nodup_nil,λI m=>by cases m⟩⟩,.of_keep kp,ho',.of_eq (by rw[hg',hg])⟩
section
set_option tactic.hygienic true
theorem Md(t:Thread):through t=(endAt 0 t).isSome:=by
 obtain⟨cur,code,pos,st⟩:=t;cases st with
 |cons _ _=>rfl
 |nil=>cases cur<;>first | rfl | (rename_i x;cases x<;>rfl)
theorem KM{tb:String->Option Builtin}{p:Program}{w:World}{n₀:Nat}{ann:Option Value}:∀{n:Nat} {s s':Shared} {t:Thread} {f:Flow} {c:Code} {q:Pos},segRun tb p w n₀ ann 0 n s t=some (f,s',c,q)->topRun tb p w n₀ ann n s t=some s'
 |0,_,_,_,_,_,_,h=>by cases h
 |n+1,s,s',t,f,c,q,h=>by
  unfold segRun at h;unfold topRun;rw[Md];cases he:endAt 0 t with
  |some g=>rw[he] at h;cases h;rfl
  |none=>
   rw[he] at h;cases hk:stepOk n₀ ann t with
   |false=>rw[hk] at h;cases h
   |true=>
    rw[hk] at h;cases hs:step (denote tb) p w s t with
    |halt o s₂=>rw[hs] at h;cases h
    |go s₂ t₂=>rw[hs] at h;exact KM h
def Nl(l:List Obj):BT:=(l.zipIdx).foldl (λt p=>t.ins p.2 p.1) .nil
def T0(P:Params):BT:=Nl (boot_heap P).objs.toList
theorem IX(P:Params):absHeap (T0 P) 11 {}=boot_heap P:=by kernel_rfl
theorem Kf(w:World):((boot_heap w.params).isNs mainGlobals&&(Array.mk []:Array GenState).size==0,(boot_heap w.params).objs.size,(boot_heap w.params).nsMap mainGlobals "__annotations__")=(true,11,some (.ref 6)):=by kernel_rfl
def H7(p q:Program)(loose:List Str)(X:Shared->Bool)(w:World)(s:Shared):=
 (staticsOk (importedModules p.main.body) (boot_heap w.params) s.heap&&namesBound p s.heap&&gensDone s&&laidKept (boot_heap w.params) s.heap,openSeen q loose (importedModules p.main.body) X true s)
nonrec theorem Fy{p q:Program}{loose:List Str}{X:Shared->Bool}{N M:Nat}(e:opening p=plainProg p.main.scope.names)(f:∀s,fenceModules? p s=some s)(hN:Nat.ble 600 N)(le:Nat.ble M N)(head:∀(w:World) (os:OsState),(segRunT treeTable p w 11 (some (.ref 6)) 0 M ⟨T0 w.params,11,{},Array.mk [],boot_drawn,boot_toks,os⟩ (topStub p)).map (λr=>H7 p q loose X w r.2.1.abs)=some (true,openGood q loose)):LeftO p q loose X (λI=>Unit.unit) (λI=>Unit.unit) N:=by
 exact(λw=>by
 obtain⟨⟨h,gs,d,k,os⟩,e0,e'⟩:=aq.mp (boot_open e hN f w);obtain⟨rfl,rfl,rfl,rfl⟩:h=boot_heap w.params/\gs=Array.mk []/\d=boot_drawn/\k=boot_toks:=by simpa using e'
 obtain⟨z1,z2,z3⟩:_/\_/\_:=by simpa only[bc] using Kf w
 obtain⟨⟨fl,s',c,qq⟩,h1,h2⟩:=aq.mp (head w os);have r:=KM (segRun_of h1);have r:=topRun_mono (N - M) _ _ _ _ r;rw[show M+(N - M)=N by have:=aV le;omega] at r;have ea:SharedT.abs ⟨T0 w.params,11,{},Array.mk [],boot_drawn,boot_toks,os⟩=⟨boot_heap w.params,Array.mk [],boot_drawn,boot_toks,os⟩:=by
  show(⟨absHeap (T0 w.params) 11 {},_,_,_,_⟩:Shared)=_;rw[IX]
 rw[ea] at r;obtain⟨l1,l2⟩:=Prod.mk.inj h2;have t:topFrom treeTable p w N ⟨boot_heap w.params,Array.mk [],boot_drawn,boot_toks,os⟩=some s'.abs:=by
  unfold topFrom;dsimp only;rw[z1,z2,z3,r];show(match staticsOk (importedModules p.main.body) (boot_heap w.params) s'.abs.heap&&namesBound p s'.abs.heap&&gensDone s'.abs&&laidKept (boot_heap w.params) s'.abs.heap with | true=>_ | false=>_)=_;rw[l1]
 unfold openEnds;rw[e0];show(topFrom treeTable p w N _).map _=_;rw[t];exact az some (Prod.ext l2 rfl))
end
abbrev pw:Program:=PySem.Challenge.pw_nz0413_01
def Ih(p:Program):Program:={p with main:={p.main with body:=p.main.body.drop 95}}
def ol(p:Program):List Str:=p.main.scope.names.dropLast.map (·.1)
def kZ(p:Program):DefRec:=match p.main.body.drop 95 with
 | .FunctionDef n a b _ _ _ s _ _ q::_=>⟨n,a,b,s,q⟩
 |_=>⟨⟨#[]⟩,default,[],default,default⟩
theorem Jo:opening pw=plainProg pw.main.scope.names:=by kernel_rfl
theorem F2(s:Shared):fenceModules? pw s=some s:=by kernel_rfl
theorem Kq:defOf (Ih pw) PySem.Challenge.rw_nz0413_01.row.name=some (kZ pw,[]):=by kernel_rfl
theorem J8:pw.theDef PySem.Challenge.rw_nz0413_01.row.name=some ((kZ pw).params,(kZ pw).body,(kZ pw).scope):=by kernel_rfl
theorem LS:kwWritten? (kZ pw).params.kwonlyargs (kZ pw).params.kw_defaults=some []:=by kernel_rfl
theorem LA:IR (kZ pw):=by kernel_rfl
theorem KX:(pw.main.scope.names.lookup ("super":Str)).isSome=false:=by kernel_rfl
theorem LU:(chainsOk (Ih pw)&&opensWell pw)=true:=by kernel_rfl
theorem IW:(frees PySem.Challenge.rw_nz0413_01.row.toRowW&&PySem.Challenge.rw_nz0413_01.row.toRowW.within.isEmpty)=true:=by kernel_rfl
theorem IZ:pw.bare:=by exact⟨rfl,rfl,rfl,rfl,rfl,by kernel_rfl⟩
theorem Il:PySem.Challenge.rw_nz0413_01.row.toRowW.promised:=⟨[.list []],by kernel_rfl,by kernel_rfl⟩
theorem L4{α β:Type _}{o:Option α}{A:α->Bool}{f:α->Shared}{q:Program}{l m:List Str}{X x y:Shared->Bool}{v:β}{k:_->β}(hX:∀s,X s=(x s&&y s))(h1:o.map (λr=>(A r,k (openSeen q l m (λI=>true) true (f r))))=some (true,v))(h2:o.map (λr=>x (f r))=some true)(h3:o.map (λr=>y (f r))=some true):o.map (λr=>(A r,k (openSeen q l m X true (f r))))=some (true,v):=by
 cases o with
 |none=>nomatch h2
 |some r=>
  have e2:x (f r):=ac h2;have e3:y (f r):=ac h3;have e:openSeen q l m X true (f r)=openSeen q l m (λI=>true) true (f r):=by
   unfold openSeen;rw[hX,e2,e3];rfl
  show some (A r,k (openSeen q l m X true (f r)))=_;rw[e];exact h1
def RT(w:World)(os:OsState):=PySem.W.Fast.tw10110043849684766642 PySem.W.Fast.tw14364793385576792824 pw w 11 (some (.ref 6)) 0 4700 ⟨T0 w.params,11,{},Array.mk [],boot_drawn,boot_toks,os⟩ (topStub pw)
theorem Np:∀(w:World) (os:OsState),(RT w os).map (λr=>H7 pw (Ih pw) (ol pw) (λI=>true) w r.2.1.abs)=some (true,openGood (Ih pw) (ol pw)):=by
 intro w os
 kernel_rfl
theorem LN:∀(w:World) (os:OsState),(RT w os).map (λr=>X1 r.2.1.abs)=some true:=by
 intro w os
 kernel_rfl
theorem Na:∀(w:World) (os:OsState),(RT w os).map (λr=>X2 pw.main.file r.2.1.abs)=some true:=by
 intro w os
 kernel_rfl
theorem left:LeftO pw (Ih pw) (ol pw) (Xt pw.main.file) (λI=>Unit.unit) (λI=>Unit.unit) 60000:=by
 refine Fy Jo F2 () (M:=4700) () λw os=>?_;rw[PySem.W.Fast.te10110043849684766642,PySem.W.Fast.te14364793385576792824];exact L4 (o:=RT w os) (A:=λr=>staticsOk (importedModules pw.main.body) (boot_heap w.params) r.2.1.abs.heap&&namesBound pw r.2.1.abs.heap&&gensDone r.2.1.abs&&laidKept (boot_heap w.params) r.2.1.abs.heap) (f:=λr=>r.2.1.abs) (k:=λz=>z) (X:=Xt pw.main.file) (x:=X1) (y:=X2 pw.main.file) (λI=>rfl) (Np w os) (LN w os) (Na w os)
theorem KH(s:Shared):RecFacts PySem.Challenge.rw_nz0413_01.row.records s.heap:=recFacts_of (R:=[]) rfl
theorem Lo:(chainsOk (Ih pw)&&opensWell PySem.Challenge.rw_nz0413_01.row.prog&&(frees PySem.Challenge.rw_nz0413_01.row.toRowW&&PySem.Challenge.rw_nz0413_01.row.toRowW.within.isEmpty))=true:=a9.mpr ⟨LU,IW⟩
theorem Jf:WalkX (Ih pw) (ol pw) (LF pw.main.file) (λI=>Unit.unit) (λI=>Unit.unit) PySem.Challenge.rw_nz0413_01.row.toRowW (kZ pw) [] λf vs=>PySem.call f vs:=Fd (l:=PySem.Challenge.rw_nz0413_01) rfl LA KX
theorem E4(k1:PySem.Challenge.rw_nz0413_01.row.wellSaid):PySem.Challenge.rw_nz0413_01.row.Holds:=
 holds_openX (r:=PySem.Challenge.rw_nz0413_01.row) (q:=Ih pw) (loose:=ol pw) (Xt:=Xt pw.main.file) (XP:=LF pw.main.file) (Yf:=λI=>Unit.unit) (Ya:=λI=>Unit.unit) (d:=kZ pw) (kwd:=[]) (N:=60000)
  left (λs h=>LF.of h) (λmg h h' x k=>x.keeps k) Kq J8 LS (λs I=>KH s) rfl k1 Lo IZ Il Jf
theorem an{a b:Bool}(h:a)(k:b):(a&&b)=true:=by rw[h,k];rfl
abbrev Im:=PySem.Challenge.rw_nz0413_01
theorem s3:namesResolve pw:=by kernel_rfl
theorem s5:noRoadLSs {strict:= !(importedModules pw.main.body).all cThrough.contains,foot:=none,bare:=(["vars","dir","locals"]:List Str).filter (readsOut pw pw.main.body)} pw.main.body=true:=by kernel_rfl
theorem s6:(namesMeet pw pw.main.body λI n=>attrL n)=true:=by kernel_rfl
theorem s1:looksOpen pw:=by
 refine an (an (an (an (an ?_ ?_) s3) ?_) s5) s6
 all_goals kernel_rfl
theorem F6:Im.row.wellSaid:=by
 refine an (an (an (an (an (an (an (an (an (an (an (an (an (an (an s1 ?_) ?_) ?_) ?_) ?_) ?_) ?_) ?_) ?_) ?_) ?_) ?_) ?_) ?_) ?_
 all_goals kernel_rfl
theorem No:(Im.bound'.all λn=> !builtinNamed n||Im.about==[n]|| !Im.reads n)=true:=by kernel_rfl
theorem Ng:(namesMeet Im.prog Im.above λI n=> !Im.own.contains n)=true:=by kernel_rfl
theorem Fv:PySem.Challenge.rw_nz0413_01.wellSaid:=by
 refine an (an (an (an (an (an (an (an (an (an (an (an (an (an (an (an (an (an F6 ?_) ?_) ?_) ?_) ?_) ?_) ?_) ?_) ?_) No) ?_) ?_) ?_) ?_) ?_) ?_) Ng) ?_
 all_goals kernel_rfl
theorem lawHolds:PySem.Challenge.rw_nz0413_01.Holds:=holds_law Fv E4
end Mine.Internal
theorem PySem.Challenge.cw_nz0413_01_holds : PySem.Challenge.rw_nz0413_01.Holds :=
 Mine.Internal.lawHolds
