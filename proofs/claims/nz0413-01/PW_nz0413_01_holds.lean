import PyProof.Rows.All
import PyProof.Cells
import PyProof.CompFree
import PyProof.Rows.EqNone
import PyProof.ExcBaseAll.Exception
import PyProof.ExcAttrAll.Exception
import PyProof.ExcInit
import PyProof.InstStoreFacts
import PyProof.RulesAs
import PyProof.Rows.ListMulArg
import PyProof.SliceMore
import KE.KEqSeq
import KE.KRevSl
import KE.KSuper
import Wide.FinOn
import OpenK.AllK
import Wide.All
import Lean
import PySem.Challenge.RW_nz0413_01
open PySem PySem.W PyProof.Rows PySem.Calls
set_option Elab.async false
set_option maxRecDepth 1000000
set_option maxHeartbeats 0
set_option linter.all false
set_option genSizeOf false
set_option genInjectivity false
namespace Mine.Internal
section
set_option compiler.extract_closed false
open Lean
abbrev TT := TSyntax `tactic
abbrev MT := MacroM TT
def mkE (d:Syntax):MacroM Syntax:=do
  let .original .. := d.getHeadInfo | Macro.throwUnsupported
  let e := d.setHeadInfo .none
  let c := d[1].getKind
  if d[0].getPos?.isNone && (c == `Lean.Parser.Command.definition || c == `Lean.Parser.Command.abbrev) then
    return e.setArg 0 (e[0].setArg 4 (mkNullNode #[.node .none `Lean.Parser.Command.noncomputable #[mkAtom "noncomputable"]]))
  return e
def mkF (a b:TT):MT:=`(tactic| first | $a:tactic | $b:tactic)
def mkX (a b:TT):MT:=`(tactic| ($a:tactic; $b:tactic))
def mkD (e:Term):MT:=`(tactic| exact $e)
def mkJ (n:Name)(e:Syntax):Term:=Syntax.mkApp (mkIdent n) #[⟨e⟩]
def mkW (n:Name)(e:Syntax):MT:=do `(tactic| refine $(Syntax.mkApp (mkIdent n) #[⟨e⟩, ← `(?_)]))
def mkL (e:Syntax):MT:=`(tactic| try clear $(⟨e⟩):ident)
def mkZ (b:Bool):MT:=if b then `(tactic| intro $(mkIdent `zz):ident) else `(tactic| subst $(mkIdent `zz):ident)
def mkA (l:List (MT)):MT:=l.foldr (fun a r => do mkF (← a) (← r)) `(tactic| fail)
def mkV (a r:Term)(l:List String):List Term:=l.foldl (init := []) fun st w =>
    let w := if w.front == '!' then (w.drop 1).toString else w
    let c := w.front
    if c == 'a' then a :: st else if c == 'r' then r :: st else if c == '_' then ⟨.node .none `Lean.Parser.Term.hole #[mkAtom "_"]⟩ :: st
      else if c == 'k' then ⟨(mkIdent `rfl).raw⟩ :: st
      else Syntax.mkApp (mkIdent (w.drop 1).toString.toName) (st.take (c.toNat - 48)).reverse.toArray :: st.drop (c.toNat - 48)
def mkT (s:String):MT:=do
  let a ← `((by assumption))
  let r ← `((by with_unfolding_all rfl))
  mkA ((s.splitOn ";").map fun s => match mkV a r (s.splitOn " ") with
    | e :: _ => if s.front == '!' then `(tactic| apply $e) else mkD e
    | _ => `(tactic| fail))
def mkI (s:String):MT:=do
  if s == "f" then mkT "0hkF;k 1hkN;k 1Or.inl;k 1Or.inr" else if s == "k" then `(tactic| with_unfolding_all kernel_rfl) else do
    let t ← mkT "0ROs.z;0RVs.z;0RFs.z;0FrR.z;0RV.n;0RV.b;0RV.i;0RV.s;0RV.v;0RO.d;0RO.a;k _ 2RVs.parts;_ 1RVs.les;_ 1RVs.nms;_ 1RVs.ints;k _ 2RV.part;_ 1RV.bare;!0ROs.k;!0RO.l;!0RO.y;!0RO.x;!0RVs.k;!0RFs.k;!0RV.t;k 1RV.o;_ 1RVs.les _ 1RV.le 2RVs.snoc;_ 1RVs.nms _ 1RV.nm 2RVs.snoc;!0RO.f;!k 1FrR.k"
    `(tactic| repeat' $t:tactic)
def mkQ (q:TSyntax `rcasesPat):MT :=
  let k := q.raw.getKind
  if k == `Lean.Parser.Tactic.rcasesPat.one then `(tactic| rintro $q:rcasesPat)
  else if k == `Lean.Parser.Tactic.rcasesPat.ignore then `(tactic| intro _)
  else if k == `Lean.Parser.Tactic.rcasesPat.tuple then do mkX (← mkZ true) (← `(tactic| obtain $q:rcasesPat := $(mkIdent `zz):ident))
  else Macro.throwUnsupported
def mkM (t:TT)(l:List (TSyntax `rcasesPat)):MT:=l.foldlM (fun t q => do mkX t (← mkQ q)) t
def mkO (e:Term)(qs:List (TSyntax `rcasesPat)):MT:=do
  if qs.length < 2 then Macro.throwUnsupported
  let l := if qs.length > 7 then 6 else qs.length
  let n := if qs.length > 7 then 7 else qs.length
  let t ← mkA ((List.range n).map fun k => mkW (.mkSimple ("e" ++ toString k ++ "_" ++ toString n)) e)
  let t ← if e.raw.isIdent then do mkX t (← mkL e) else pure t
  if qs.length > 7 then
    let rs : List (TSyntax ``Lean.Parser.Tactic.rcasesPatLo) := (qs.drop l).map fun (q : TSyntax `rcasesPat) => ⟨.node .none ``Lean.Parser.Tactic.rcasesPatLo #[.node .none ``Lean.Parser.Tactic.rcasesPatMed #[mkNullNode #[q]], mkNullNode]⟩
    mkM t (qs.take l ++ [← `(rcasesPat| ⟨$[$rs.toArray],*⟩)])
  else mkM t qs
def mkU (h:Ident)(c:String)(n:Nat):MT:=(List.range n).foldl (fun r _ => do mkX (← r) (← mkX (← mkZ true) (← mkZ false))) (do mkX (← mkW (.mkSimple c) h) (← `(tactic| clear $h:ident)))
def mkC (p:Bool) (h:Ident):MT :=
  mkA (["q0", "q1", "q2", "q3"].map (fun c => mkD (mkJ (.mkSimple c) h)) ++ (if p then ["p6", "p5", "p4"].map (mkU h · 0) else []) ++ [mkU h "q7" 5, mkU h "q6" 4, mkU h "q5" 3, mkU h "q4" 2] ++ (if p then [] else [`(tactic| induction $h:ident)]))
def mkP (t:Syntax)(as:TSyntaxArray ``Lean.Parser.Tactic.inductionAlt):MT:=do
  let e : Term := ⟨t[1]⟩
  let z := mkIdent `zz
  if t[0].isNone then
    if e.raw.isIdent || e.raw.getKind == `Lean.Parser.Term.paren then Macro.throwUnsupported
    mkX (← `(tactic| generalize $e = $z)) (← `(tactic| induction $z:ident with $as:inductionAlt*))
  else mkX (← `(tactic| generalize $(⟨t[0][0][0]⟩):ident : $e = $z)) (← `(tactic| induction $z:ident with $as:inductionAlt*))
def mkB (b:Bool)(c:Ident)(t v:Term):MacroM Syntax:=if b then `(command| noncomputable def $c := $v) else `(command| noncomputable def $c : $t := $v)
def mkR (z:Term)(n:Nat):List Term:=(List.range n).map fun i =>
  let q := (List.range i).foldl (fun q _ => mkJ `Prod.snd q) z
  if i + 1 == n then q else mkJ `Prod.fst q
def mkS (c:Name)(l:List Term):Term:=(l.foldr (fun a r => some (r.elim a fun r => Syntax.mkApp (mkIdent c) #[a, r])) none).getD ⟨.missing⟩
def mkY (b:Syntax)(i:Nat):List Ident:=b[i].getArgs.toList.map (⟨·⟩)
def mkN (n:Ident)(bs:List Syntax)(t v:Term):MacroM Syntax:=do
  let cl := bs.takeWhile (·.getKind == ``Lean.Parser.Term.implicitBinder)
  let rs := bs.drop cl.length
  let ps : List (Ident × Term) := cl.flatMap fun b => (mkY b 1).map fun x => (x, ⟨b[2][1]⟩)
  if ps.isEmpty then Macro.throwUnsupported
  let xs : List Term := ps.map fun p => ⟨p.1.raw⟩
  let zt := mkIdent `zt
  let z := mkIdent `z
  let st ← rs.foldrM (fun b t => `($(⟨b⟩):bracketedBinder → $t)) t
  let sf ← ps.foldrM (fun p r => `(fun $(p.1) => $r)) st
  let sy ← ps.foldrM (fun p r => `($(p.2) → $r)) (← `(Prop))
  let w ← `(fun ($z : $(mkS `Prod (ps.map (·.2)))) => $(Syntax.mkApp (mkIdent (n.getId ++ `zS)) (mkR z xs.length).toArray))
  let P := Syntax.mkApp (mkIdent (n.getId ++ `zS)) xs.toArray
  let ns := (rs.flatMap (mkY · 1)).toArray
  let cb : Array (TSyntax ``Lean.Parser.Term.bracketedBinder) := (cl.map (⟨·⟩)).toArray
  let h ← (ps.zip (mkR zt xs.length)).mapM fun (p, d) => mkB true p.1 d d
  pure (mkNullNode (#[(← `(command| namespace $n)).raw, ← mkB false (mkIdent `zS) sy sf,
    ← mkB true zt t (← `($(mkIdent `E1) $w ⟨by repeat' first | exact default | exact True | exact {} | intro _ | constructor⟩))] ++ h.toArray ++
    #[(← `(command| theorem $(mkIdent `zP) : $P := by (intro $[$ns:ident]*; exact $v))).raw, (← `(command| end $n)).raw,
      ← `(command| theorem $n:ident $[$cb:bracketedBinder]* : $P := $(mkIdent `A1) (S := $w) $(mkIdent (n.getId ++ `zP)) $(mkS `Prod.mk xs))]))
section
variable{a1 a2 a3 a4 a5 a6:Sort _} {G:Prop}
section
variable{A1:a1->Prop} {A2 A3 A4 A5:Prop}
theorem aa:type_of% @wpAny_bind:=@wpAny_bind
theorem ac:type_of% @Option.some.inj:=@Option.some.inj
theorem ae:type_of% @Heap.get?_push_of_some:=@Heap.get?_push_of_some
theorem af:type_of% @List.length_map:=@List.length_map
theorem ag:type_of% @decide_eq_false:=@decide_eq_false
theorem ai:type_of% @List.length_append:=@List.length_append
theorem aj:type_of% @List.mem_singleton:=@List.mem_singleton
theorem ak:type_of% @wpAny_execs_cons:=@wpAny_execs_cons
theorem am:type_of% @beq_iff_eq:=@beq_iff_eq
theorem ao:type_of% @Nat.le_refl:=@Nat.le_refl
theorem aq:type_of% @Option.map_eq_some_iff:=@Option.map_eq_some_iff
theorem au:type_of% @Nat.le_succ:=@Nat.le_succ
theorem av:type_of% @decide_eq_true:=@decide_eq_true
theorem aw:type_of% @List.append_assoc:=@List.append_assoc
theorem ax:type_of% @Nat.le_trans:=@Nat.le_trans
theorem ay:type_of% @Heap.lt_size:=@Heap.lt_size
theorem az:type_of% @congrArg:=@congrArg
theorem aA:type_of% @Nat.le_add_right:=@Nat.le_add_right
theorem aB:type_of% @Heap.get?_push_size:=@Heap.get?_push_size
theorem aC:type_of% @Nat.succ_le_succ:=@Nat.succ_le_succ
theorem aD:type_of% @List.mem_cons:=@List.mem_cons
theorem aE:type_of% @wpAny_pure:=@wpAny_pure
theorem aF:type_of% @spliced_more:=@spliced_more
theorem aG:type_of% @Nat.le_succ_of_le:=@Nat.le_succ_of_le
theorem aH:type_of% @Nat.lt_of_lt_of_le:=@Nat.lt_of_lt_of_le
theorem aI:type_of% @List.size_toArray:=@List.size_toArray
theorem aJ:type_of% @Nat.zero_le:=@Nat.zero_le
theorem aK:type_of% @wpAny_mono:=@wpAny_mono
theorem aL:type_of% @Heap.get?_update_other:=@Heap.get?_update_other
theorem aM:type_of% @wpAny_execs_nil:=@wpAny_execs_nil
theorem aN:type_of% @Calls.spliced_nil:=@Calls.spliced_nil
theorem aO:type_of% @List.prefix_refl:=@List.prefix_refl
theorem aP:type_of% @Nat.eq_of_beq_eq_true:=@Nat.eq_of_beq_eq_true
theorem aQ:type_of% @List.append_nil:=@List.append_nil
theorem aR:type_of% @wpAny_Constant_int:=@wpAny_Constant_int
theorem aS:type_of% @of_decide_eq_true:=@of_decide_eq_true
theorem aT:type_of% @List.all_eq_true:=@List.all_eq_true
theorem aU:type_of% @wpAny_holding:=@wpAny_holding
theorem aV:type_of% @Nat.le_of_ble_eq_true:=@Nat.le_of_ble_eq_true
theorem aW:type_of% @List.lookup_cons:=@List.lookup_cons
theorem aX:type_of% @Nat.lt_succ_self:=@Nat.lt_succ_self
theorem aY:type_of% @Nat.le_of_eq:=@Nat.le_of_eq
theorem aZ:type_of% @Nat.le_of_lt:=@Nat.le_of_lt
theorem a8:type_of% @List.filterMap_cons:=@List.filterMap_cons
theorem a9:type_of% @Bool.and_eq_true_iff:=@Bool.and_eq_true_iff
theorem ba:type_of% @wpAny_standAt:=@wpAny_standAt
theorem bc:type_of% @Prod.mk.injEq:=@Prod.mk.injEq
theorem bf:type_of% @wpAny_loadPart_at:=@wpAny_loadPart_at
theorem bj:type_of% @List.mem_append:=@List.mem_append
theorem bn:type_of% @List.map_append:=@List.map_append
theorem bu:type_of% @List.reverse_cons:=@List.reverse_cons
theorem bv:type_of% @Nat.le_of_add_right_le:=@Nat.le_of_add_right_le
theorem bw:type_of% @Nat.lt_of_le_of_lt:=@Nat.lt_of_le_of_lt
theorem bx:type_of% @Nat.add_le_add_left:=@Nat.add_le_add_left
theorem bz:type_of% @List.replicate_succ:=@List.replicate_succ
theorem bA:type_of% @Nat.le_of_not_lt:=@Nat.le_of_not_lt
theorem bB:type_of% @Heap.size_push:=@Heap.size_push
theorem bC:type_of% @beq_self_eq_true:=@beq_self_eq_true
theorem bD:type_of% @Nat.lt_irrefl:=@Nat.lt_irrefl
theorem bF:type_of% @Nat.add_right_comm:=@Nat.add_right_comm
theorem bG:type_of% @Nat.ne_of_lt:=@Nat.ne_of_lt
theorem bH:type_of% @wpAny_Call_Name_kw:=@wpAny_Call_Name_kw
theorem bI:type_of% @List.length_nil:=@List.length_nil
theorem bJ:type_of% @List.length_cons:=@List.length_cons
theorem bK:type_of% @beq_eq_false_iff_ne:=@beq_eq_false_iff_ne
theorem bL:type_of% @List.length_reverse:=@List.length_reverse
theorem bM:type_of% @Heap.get?_update_self:=@Heap.get?_update_self
theorem bN:type_of% @wpAny_assign_Name:=@wpAny_assign_Name
theorem bO:type_of% @Nat.succ_add_eq_add_succ:=@Nat.succ_add_eq_add_succ
theorem bP:type_of% @List.flatten_cons:=@List.flatten_cons
theorem bQ:type_of% @Nat.add_assoc:=@Nat.add_assoc
theorem bR:type_of% @Option.any_eq_true:=@Option.any_eq_true
theorem bS:type_of% @Nat.zero_add:=@Nat.zero_add
theorem bT:type_of% @Array.getElem?_eq_some_iff:=@Array.getElem?_eq_some_iff
theorem bU:type_of% @Heap.SameBut.update:=@Heap.SameBut.update
theorem bV:type_of% @wpAny_of_eq:=@wpAny_of_eq
theorem bW:type_of% @List.getElem?_eq_none_iff:=@List.getElem?_eq_none_iff
theorem bX:type_of% @Int.ofNat_lt:=@Int.ofNat_lt
theorem bY:type_of% @wpAny_allTrue_Or_cons:=@wpAny_allTrue_Or_cons
theorem bZ:type_of% @wpAny_isTrue_Compare1:=@wpAny_isTrue_Compare1
theorem b8:type_of% @Bool.false_ne_true:=@Bool.false_ne_true
theorem b9:type_of% @List.prefix_append:=@List.prefix_append
theorem cc:type_of% @List.length_take:=@List.length_take
theorem cj:type_of% @wpAny_loadName_local:=@wpAny_loadName_local
theorem cq:type_of% @Value.type.inj:=@Value.type.inj
theorem cu:type_of% @evalArgs_plain:=@evalArgs_plain
theorem cz:type_of% @wpAny_truthy_bool:=@wpAny_truthy_bool
theorem cA:type_of% @wpAny_Assign_Name:=@wpAny_Assign_Name
theorem cB:type_of% @Nat.not_lt_zero:=@Nat.not_lt_zero
theorem cC:type_of% @wpAny_Assign_stores:=@wpAny_Assign_stores
theorem cD:type_of% @wpAny_field:=@wpAny_field
theorem cE:type_of% @PyProof.Rows.callWith_type:=@PyProof.Rows.callWith_type
theorem cF:type_of% @Nat.not_lt:=@Nat.not_lt
theorem cG:type_of% @List.take_length:=@List.take_length
theorem cH:type_of% @wpAny_Constant_str:=@wpAny_Constant_str
theorem cI:type_of% @wpAny_typeLookup_exc:=@wpAny_typeLookup_exc
theorem cJ:type_of% @Nat.le_of_succ_le:=@Nat.le_of_succ_le
theorem cK:type_of% @Array.size_append:=@Array.size_append
theorem cL:type_of% @Nat.sub_lt_sub_left:=@Nat.sub_lt_sub_left
theorem cN:type_of% @wpAny_Tuple_spliced:=@wpAny_Tuple_spliced
theorem cO:type_of% @List.of_mem_zip:=@List.of_mem_zip
theorem cP:type_of% @List.nil_append:=@List.nil_append
theorem cQ:type_of% @wpAny_BinOp:=@wpAny_BinOp
theorem cR:type_of% @wpAny_call:=@wpAny_call
theorem e0_2{A1:Prop}(h:A1/\A2)(k:A1->A2->G):G:=k h.1 h.2
theorem e1_2(h:∃x1,A1 x1)(k:∀x1,A1 x1->G):G:=h.elim λx1 h=>k x1 h
theorem e0_3{A1:Prop}(h:A1/\A2/\A3)(k:A1->A2->A3->G):G:=k h.1 h.2.1 h.2.2
theorem e1_3{A2:a1->Prop}(h:∃x1,A1 x1/\A2 x1)(k:∀x1,A1 x1->A2 x1->G):G:=h.elim λx1 h=>k x1 h.1 h.2
theorem e2_3{A1:a1->a2->Prop}(h:∃x1 x2,A1 x1 x2)(k:∀x1 x2,A1 x1 x2->G):G:=h.elim λx1 h=>h.elim λx2 h=>k x1 x2 h
theorem e0_4{A1:Prop}(h:A1/\A2/\A3/\A4)(k:A1->A2->A3->A4->G):G:=k h.1 h.2.1 h.2.2.1 h.2.2.2
theorem e1_4{A2 A3:a1->Prop}(h:∃x1,A1 x1/\A2 x1/\A3 x1)(k:∀x1,A1 x1->A2 x1->A3 x1->G):G:=h.elim λx1 h=>k x1 h.1 h.2.1 h.2.2
theorem e2_4{A1 A2:a1->a2->Prop}(h:∃x1 x2,A1 x1 x2/\A2 x1 x2)(k:∀x1 x2,A1 x1 x2->A2 x1 x2->G):G:=h.elim λx1 h=>h.elim λx2 h=>k x1 x2 h.1 h.2
theorem e3_4{A1:a1->a2->a3->Prop}(h:∃x1 x2 x3,A1 x1 x2 x3)(k:∀x1 x2 x3,A1 x1 x2 x3->G):G:=h.elim λx1 h=>h.elim λx2 h=>h.elim λx3 h=>k x1 x2 x3 h
theorem e0_5{A1:Prop}(h:A1/\A2/\A3/\A4/\A5)(k:A1->A2->A3->A4->A5->G):G:=k h.1 h.2.1 h.2.2.1 h.2.2.2.1 h.2.2.2.2
theorem e1_5{A2 A3 A4:a1->Prop}(h:∃x1,A1 x1/\A2 x1/\A3 x1/\A4 x1)(k:∀x1,A1 x1->A2 x1->A3 x1->A4 x1->G):G:=h.elim λx1 h=>k x1 h.1 h.2.1 h.2.2.1 h.2.2.2
theorem e2_5{A1 A2 A3:a1->a2->Prop}(h:∃x1 x2,A1 x1 x2/\A2 x1 x2/\A3 x1 x2)(k:∀x1 x2,A1 x1 x2->A2 x1 x2->A3 x1 x2->G):G:=h.elim λx1 h=>h.elim λx2 h=>k x1 x2 h.1 h.2.1 h.2.2
theorem e3_5{A1 A2:a1->a2->a3->Prop}(h:∃x1 x2 x3,A1 x1 x2 x3/\A2 x1 x2 x3)(k:∀x1 x2 x3,A1 x1 x2 x3->A2 x1 x2 x3->G):G:=h.elim λx1 h=>h.elim λx2 h=>h.elim λx3 h=>k x1 x2 x3 h.1 h.2
theorem e0_6{A1 A6:Prop}(h:A1/\A2/\A3/\A4/\A5/\A6)(k:A1->A2->A3->A4->A5->A6->G):G:=k h.1 h.2.1 h.2.2.1 h.2.2.2.1 h.2.2.2.2.1 h.2.2.2.2.2
theorem e1_6{A2 A3 A4 A5:a1->Prop}(h:∃x1,A1 x1/\A2 x1/\A3 x1/\A4 x1/\A5 x1)(k:∀x1,A1 x1->A2 x1->A3 x1->A4 x1->A5 x1->G):G:=h.elim λx1 h=>k x1 h.1 h.2.1 h.2.2.1 h.2.2.2.1 h.2.2.2.2
theorem e2_6{A1 A2 A3 A4:a1->a2->Prop}(h:∃x1 x2,A1 x1 x2/\A2 x1 x2/\A3 x1 x2/\A4 x1 x2)(k:∀x1 x2,A1 x1 x2->A2 x1 x2->A3 x1 x2->A4 x1 x2->G):G:=h.elim λx1 h=>h.elim λx2 h=>k x1 x2 h.1 h.2.1 h.2.2.1 h.2.2.2
theorem e3_6{A1 A2 A3:a1->a2->a3->Prop}(h:∃x1 x2 x3,A1 x1 x2 x3/\A2 x1 x2 x3/\A3 x1 x2 x3)(k:∀x1 x2 x3,A1 x1 x2 x3->A2 x1 x2 x3->A3 x1 x2 x3->G):G:=h.elim λx1 h=>h.elim λx2 h=>h.elim λx3 h=>k x1 x2 x3 h.1 h.2.1 h.2.2
theorem e4_6{A1 A2:a1->a2->a3->a4->Prop}(h:∃x1 x2 x3 x4,A1 x1 x2 x3 x4/\A2 x1 x2 x3 x4)(k:∀x1 x2 x3 x4,A1 x1 x2 x3 x4->A2 x1 x2 x3 x4->G):G:=h.elim λx1 h=>h.elim λx2 h=>h.elim λx3 h=>h.elim λx4 h=>k x1 x2 x3 x4 h.1 h.2
theorem e0_7{A1 A6 A7:Prop}(h:A1/\A2/\A3/\A4/\A5/\A6/\A7)(k:A1->A2->A3->A4->A5->A6->A7->G):G:=k h.1 h.2.1 h.2.2.1 h.2.2.2.1 h.2.2.2.2.1 h.2.2.2.2.2.1 h.2.2.2.2.2.2
theorem e1_7{A2 A3 A4 A5 A6:a1->Prop}(h:∃x1,A1 x1/\A2 x1/\A3 x1/\A4 x1/\A5 x1/\A6 x1)(k:∀x1,A1 x1->A2 x1->A3 x1->A4 x1->A5 x1->A6 x1->G):G:=h.elim λx1 h=>k x1 h.1 h.2.1 h.2.2.1 h.2.2.2.1 h.2.2.2.2.1 h.2.2.2.2.2
theorem e2_7{A1 A2 A3 A4 A5:a1->a2->Prop}(h:∃x1 x2,A1 x1 x2/\A2 x1 x2/\A3 x1 x2/\A4 x1 x2/\A5 x1 x2)(k:∀x1 x2,A1 x1 x2->A2 x1 x2->A3 x1 x2->A4 x1 x2->A5 x1 x2->G):G:=h.elim λx1 h=>h.elim λx2 h=>k x1 x2 h.1 h.2.1 h.2.2.1 h.2.2.2.1 h.2.2.2.2
theorem e3_7{A1 A2 A3 A4:a1->a2->a3->Prop}(h:∃x1 x2 x3,A1 x1 x2 x3/\A2 x1 x2 x3/\A3 x1 x2 x3/\A4 x1 x2 x3)(k:∀x1 x2 x3,A1 x1 x2 x3->A2 x1 x2 x3->A3 x1 x2 x3->A4 x1 x2 x3->G):G:=h.elim λx1 h=>h.elim λx2 h=>h.elim λx3 h=>k x1 x2 x3 h.1 h.2.1 h.2.2.1 h.2.2.2
theorem e4_7{A1 A2 A3:a1->a2->a3->a4->Prop}(h:∃x1 x2 x3 x4,A1 x1 x2 x3 x4/\A2 x1 x2 x3 x4/\A3 x1 x2 x3 x4)(k:∀x1 x2 x3 x4,A1 x1 x2 x3 x4->A2 x1 x2 x3 x4->A3 x1 x2 x3 x4->G):G:=h.elim λx1 h=>h.elim λx2 h=>h.elim λx3 h=>h.elim λx4 h=>k x1 x2 x3 x4 h.1 h.2.1 h.2.2
theorem e5_7{A1 A2:a1->a2->a3->a4->a5->Prop}(h:∃x1 x2 x3 x4 x5,A1 x1 x2 x3 x4 x5/\A2 x1 x2 x3 x4 x5)(k:∀x1 x2 x3 x4 x5,A1 x1 x2 x3 x4 x5->A2 x1 x2 x3 x4 x5->G):G:=h.elim λx1 h=>h.elim λx2 h=>h.elim λx3 h=>h.elim λx4 h=>h.elim λx5 h=>k x1 x2 x3 x4 x5 h.1 h.2
theorem e6_7{A1:a1->a2->a3->a4->a5->a6->Prop}(h:∃x1 x2 x3 x4 x5 x6,A1 x1 x2 x3 x4 x5 x6)(k:∀x1 x2 x3 x4 x5 x6,A1 x1 x2 x3 x4 x5 x6->G):G:=h.elim λx1 h=>h.elim λx2 h=>h.elim λx3 h=>h.elim λx4 h=>h.elim λx5 h=>h.elim λx6 h=>k x1 x2 x3 x4 x5 x6 h
end
end
section
variable{α:Type _} {a c b d j k n m l s x st:Nat} {G:Prop}
theorem q0{a:α}(h:none=some a):G:=nomatch h
theorem q1{a:α}(h:some a=none):G:=nomatch h
theorem q2(h:true=false):G:=nomatch h
theorem q3(h:false=true):G:=nomatch h
theorem q4{β:Type _}{a c:α}{b d:β}(h:some (a,b)=some (c,d))(k:a=c->b=d->G):G:=k (az (λz=>(z.getD (a,b)).1) h) (az (λz=>(z.getD (a,b)).2) h)
theorem q5{β γ:Type _}{a c:α}{b d:β}{e f:γ}(h:some (a,b,e)=some (c,d,f))(k:a=c->b=d->e=f->G):G:=q4 h λx y=>q4 (az some y) (k x)
theorem q6{β γ δ:Type _}{a c:α}{b d:β}{e f:γ}{i j:δ}(h:some (a,b,e,i)=some (c,d,f,j))(k:a=c->b=d->e=f->i=j->G):G:=q4 h λx y=>q5 (az some y) (k x)
theorem up{P:Nat->Prop}(h:n<k+1)(z:P k)(r:n<k->P n):P n:=(Nat.lt_or_eq_of_le (Nat.le_of_lt_succ h)).elim r λe=>e▸z
theorem up8{P:Nat->Prop}(h:n<8)(a:P 7)(b:P 6)(c:P 5)(d:P 4)(e:P 3)(f:P 2)(g:P 1)(i:P 0):P n:=
 up h a λh=>up h b λh=>up h c λh=>up h d λh=>up h e λh=>up h f λh=>up h g λh=>up h i λh=>absurd h (cB _)
theorem o40(ha:a<=m)(h:n=min (a+n - a) (m - a)):a+n<=m:=Nat.add_comm n a▸Nat.add_le_of_le_sub ha (ax (aY h) (Nat.min_le_right _ _))
theorem o41(h:l - s<=0):l<s+1:=Nat.lt_succ_of_le (Nat.le_of_sub_eq_zero (Nat.le_zero.mp h))
theorem o42(h:s<=l)(k:l<s+1):s=l:=Nat.le_antisymm h (Nat.le_of_lt_succ k)
theorem o43(h:¬l<s+1):1<=l - s:=Nat.sub_pos_of_lt (Nat.lt_of_succ_le (bA h))
theorem o44(h:l - s<=k+1):l - (s+1+j)<=k:=by
 rw[Nat.sub_le_iff_le_add] at h ⊢;exact ax h (by rw[bQ,Nat.add_comm 1 s];exact bx (aA _ _) k)
theorem o45(a:s+1+j<=l)(h:m<=l - (s+1+j)):m+1<=l - s:=Nat.le_sub_of_add_le (ax (by rw[bQ,Nat.add_comm 1 s];exact bx (aA _ _) m) (Nat.add_le_of_le_sub (ax (ao _) a) h))
theorem o46(h:l<n+1+s):l<n+(s+1+j):=by lia
theorem o47(h:s+(n+1)*(a+b+2)<=l):s+a+1+b+1+n*(a+b+2)<=l:=by rw[Nat.succ_mul] at h;lia
theorem o48(h:s+a+1+b+1+x<=l)(z:k<=a):s+k+x<=l:=by lia
theorem o49(a:s+k<=l)(b:1<=k)(h:m<=l - (s+k)):m+1<=l:=ax (bx (ax b (Nat.le_add_left k s)) m) (Nat.add_le_of_le_sub a h)
theorem o50(h:s+(n+1)*(a+b+c+2)<=l):s+a+b+1+c+1+n*(a+b+c+2)<=l:=by rw[Nat.succ_mul] at h;lia
theorem o51(h:s+a+b+1+c+1+x<=l)(z:k<=b):s+a+k+x<=l:=by lia
theorem o52{y:Nat}(h:a<=x)(k:b<=y)(z:Nat.ble (x+y) c=true):a+b<=c:=ax (Nat.add_le_add h k) (aV z)
@[elab_as_elim] theorem p4{α β:Type _}{P:α->β->Prop}{a c:α}{b d:β}(h:some (a,b)=some (c,d))(k:P a b):P c d:=q4 h λx y=>x▸y▸k
@[elab_as_elim] theorem p5{α β γ:Type _}{P:α->β->γ->Prop}{a c:α}{b d:β}{e f:γ}(h:some (a,b,e)=some (c,d,f))(k:P a b e):P c d f:=q5 h λx y z=>x▸y▸z▸k
@[elab_as_elim] theorem p6{α β γ δ:Type _}{P:α->β->γ->δ->Prop}{a c:α}{b d:β}{e f:γ}{i j:δ}(h:some (a,b,e,i)=some (c,d,f,j))(k:P a b e i):P c d f j:=q6 h λx y z w=>x▸y▸z▸w▸k
theorem o1(h:¬l<s+1)(k:l<b)(z:Nat.ble b c):s+1<c:=bw (bA h) (aH k (aV z))
theorem o2(h:x<=s)(k:s<b)(z:Nat.ble (b+1) c):x+1<c:=aH (Nat.succ_lt_succ (bw h k)) (aV z)
theorem o3(h:a<b)(k:b<c)(z:Nat.ble c (2^62)):(a:Int)<2^62:=bX.mpr (Nat.lt_trans h (aH k (aV z)))
theorem o4(h:j+(n+1)<=m+1):j<=m:=ax (aA j n) (Nat.le_of_succ_le_succ h)
theorem o5(h:j+(n+1)<=m):j+1+n<=m:=by rw[bF];exact h
theorem o6(h:j<n):n - j=n - (j+1)+1:=(Nat.sub_add_cancel (Nat.sub_pos_of_lt h)).symm.trans (az (·+1) (Nat.sub_sub n j 1))
theorem o7(h:j<n):n - (j+1)<n - j:=cL h (aX j)
theorem o8(h:l<n+1+s):l<n+(s+1):=by rw[bF] at h;exact h
theorem o9(h:l<st+d+k):l<st+(d+k):=by rw[<-bQ];exact h
theorem o10(h:st+d+k<=l):st+(d+k)<=l:=by rw[<-bQ];exact h
theorem o11(h:st+1+k<=l):st+(k+1)<=l:=by rw[<-bQ,bF];exact h
theorem o13(h:l<=st+1+k):l<=st+(k+1):=by rw[<-bQ,bF];exact h
theorem o14(h:l<n+(st+1+k)):l<n+(st+(k+1)):=by rw[<-bQ st,bF st];exact h
theorem o15{y z:Nat}(h:x<=y+z):x<=y+(z+1):=aG h
theorem o17{z:Nat}(h:x<=n+z):x+1<=n+(z+1):=aC h
theorem o18{r:Nat}:n<=n+1+r:=ax (au n) (aA _ _)
theorem o19{r:Nat}:n+r<=n+1+r:=Nat.add_le_add_right (au n) r
theorem o20:st+1<=st+(k+1):=bx (Nat.le_add_left 1 k) st
theorem o21:st+1<=st+(1+k):=bx (aA 1 k) st
theorem o22(h:a+n<=l):(a:Int)+(n:Int)<=(l:Int):=Int.ofNat_le.mpr h
theorem o23(h:¬a+n<=l):¬((a:Int)+(n:Int)<=(l:Int)):=λk=>h (Int.ofNat_le.mp k)
theorem o24(h:l<a+1):(l:Int)<(a:Int)+1:=bX.mpr h
theorem o25(h:¬l<a+1):¬((l:Int)<(a:Int)+1):=λk=>h (bX.mp k)
theorem o26(h:¬l<a+1):(a:Int)<(l:Int):=bX.mpr (bA h)
theorem o27(h:¬a<l):¬((a:Int)<(l:Int)):=λk=>h (bX.mp k)
theorem o28:(0:Int)<((n+1:Nat):Int):=bX.mpr (Nat.succ_pos n)
theorem o29:(0:Int)<((0+(n+1):Nat):Int):=bX.mpr (by rw[bS];exact Nat.succ_pos n)
theorem o30(h:n<b)(k:Nat.ble b c):0+n<c:=by rw[bS];exact aH h (aV k)
theorem o31{A:Nat}(h:A+(n+1+k)<l):A+1+(n+k)<l:=bw (aY ((bQ A 1 (n+k)).trans (az (A+·) ((Nat.add_comm 1 (n+k)).trans (bF n k 1))))) h
theorem o32(h:s<=l)(k:l<s+1):s=l:=Nat.le_antisymm h (Nat.le_of_lt_succ k)
theorem o34(h:a<=j)(k:j<l)(m:l<c)(z:Nat.ble c d):0+a<d:=by rw[bS];exact bw h (Nat.lt_trans k (aH m (aV z)))
theorem o35(h:a+1<=j)(k:j<l)(m:l<c)(z:Nat.ble c d):0+a<d:=o34 (cJ h) k m z
theorem o38(h:st<=l):¬l<0+st:=by rw[bS];exact cF.mpr h
theorem o39:l<l+(n+1)+st:=aH (Nat.lt_add_of_pos_right (Nat.succ_pos n)) (aA _ st)
noncomputable def w0:PySem.World:=⟨λI I=>0,{strHash:=λI=>0,shareClass:=λI=>0,mergeTok:=λx=>x,idOf:=λI=>0,idOfShared:=λI I=>0,followText:=λI=>false,idOfImm:=λI=>0}⟩
noncomputable def E1{α:Type}(S:α->Prop)(n:Nonempty α):α:=@Classical.epsilon α n λa=>¬S a
theorem A1{α:Type}{S:α->Prop}{n:Nonempty α}(h:S (E1 S n))(a:α):S a:=Classical.byContradiction λk=>@Classical.epsilon_spec α (λa=>¬S a) ⟨a,k⟩ h
end
end
local macro_rules (kind := Lean.Parser.Command.declaration)
  | d => mkE d
local macro_rules
  | `(()) => `(by decide)
set_option bootstrap.genMatcherCode false
set_option compiler.extract_closed false
theorem Nt1:type_of%@Nat.le_of_ble_eq_true:=@Nat.le_of_ble_eq_true
theorem Nt2:type_of%@Nat.lt_of_le_of_lt:=@Nat.lt_of_le_of_lt
theorem Nt3:type_of%@Nat.lt_of_lt_of_le:=@Nat.lt_of_lt_of_le
theorem N4:True:=trivial
local macro_rules
  | `(tactic| omega) => do `(tactic| with_reducible first | assumption | $(← mkT "a r 1Nt1 2Nt2;a r 1Nt1 2Nat.le_trans;a r 1Nt1 2Nt3;a r 1Nt1 2Nt3 1Nat.le_of_lt;_ 1Int.natCast_nonneg;a 1Int.ofNat_lt.mpr;a 1Int.ofNat_le.mpr;a 1Nat.le_of_lt;a 1Nat.le_of_lt_succ;a 1Nat.succ_le_of_lt;a 1Nat.le_succ_of_le;a 1Nat.le_of_succ_le;a 1Nat.lt_of_succ_le;a 1Nat.succ_le_succ;a 1Nat.succ_lt_succ;a 1Nat.le_of_succ_le_succ;a 1Nat.le_of_not_lt;a 1Nat.lt_of_not_le;a 1Nat.lt_of_not_le 1Nat.succ_le_of_lt;a 1Nat.lt_succ_of_le;a a 2Nt3 1Nat.le_of_lt;a a 2Nt2;a a 2Nt3;a a 2Nat.le_trans;_ _ _ 3Nat.add_right_comm;_ _ _ 3Nat.add_assoc;_ _ _ 3Nat.add_assoc 1Eq.symm;_ _ 2Nat.succ_add_eq_add_succ;_ _ 2Nat.add_comm;a 1Nat.le_add_right_of_le;a 1Nat.le_add_left_of_le;_ _ 2Nat.le_add_right;_ _ 2Nat.le_add_left;a a 2Nat.add_le_add;a _ 2Nat.add_le_add_right;a a r 1Nt1 2Nt3 2Nt2;a a r 1Nt1 2Nt2 2Nt2;a 1Nat.succ_le_succ r 1Nt1 2Nt2;a a 1Nat.succ_le_succ 2Nat.le_trans;a a 2Nt3 1Nat.le_of_lt_succ;_ 1Nat.sub_zero 1Eq.symm;a a a 2Nt3 2Nt2 1Nat.le_of_lt;_ 1Nat.zero_le;_ 1Nat.le_refl;a _ 1Nat.not_lt_zero 2absurd;a a 1o38 2absurd;_ _ 2Nat.min_le_left;_ _ 2Nat.min_le_right;_ _ 2Nat.min_le_left r 1Nt1 2Nat.le_trans;a a 2Nat.lt_trans r 1Nt1 2Nt3;a 1Nat.le_of_lt a r 1Nt1 2Nt2 2Nt2;a a 1Nat.not_lt.mpr 2absurd;a a r 3o1;a a r 3o2;a a r 3o3;a 1o4;a 1o5;a 1o6;a 1o7;a 1o8;a 1o9;a 1o10;a 1o11;a 1o12;a 1o13;a 1o14;a 1o15;a 1o16;a 1o17;0o18;0o19;0o20;0o21;a 1o22;a 1o23;a 1o24;a 1o25;a 1o26;a 1o27;0o28;0o29;a r 2o30;a 1o31;a a 2o32;a a r 3o33;a a a r 4o34;a a a r 4o35;a a a r 4o36;a a a r 4o37;0o39;a a 2Nt3 1Int.ofNat_lt.mpr;a 1Int.ofNat_le.mpr 1Int.lt_add_one_of_le;a a 2o40;a 1o41;a a 2o42;a 1o43;a 1o44;a a 2o45;a 1o46;a a 2o48;a a a 3o49;a a 2o51;a 1Nat.not_lt.mpr;_ _ 2Nat.sub_le;_ _ 2Nat.add_sub_cancel_left"):tactic | lia)
local macro_rules
  | `(tactic| walk_at $s:str) => mkI s.getString
local macro_rules
  | `(tactic| obtain ⟨$[$ps:rcasesPatLo],*⟩ := $e:term) => do
    let qs ← ps.toList.mapM fun (p : Lean.TSyntax `Lean.Parser.Tactic.rcasesPatLo) => match p with
      | `(Lean.Parser.Tactic.rcasesPatLo| $q:rcasesPat) => pure q
      | _ => Lean.Macro.throwUnsupported
    if qs.length < 2 then Lean.Macro.throwUnsupported
    mkO e qs
local macro_rules
  | `(tactic| cases $h:ident) => mkC false h
local macro_rules
  | `(tactic| injection $h:ident) => mkC true h
local macro_rules
  | `(tactic| cases $h:ident with $as:inductionAlt*) => `(tactic| first | (induction $h:ident with $as:inductionAlt*) | (cases ($h) with $as:inductionAlt*))
local macro_rules
  | `(tactic| cases $t:elimTarget with $as:inductionAlt*) => mkP t.raw as
local macro_rules
  | `(command| nonrec theorem $n:declId $s:declSig $v:declVal) => mkN ⟨n.raw[0]⟩ s.raw[0].getArgs.toList ⟨s.raw[1][1]⟩ ⟨v.raw[1]⟩
set_option tactic.hygienic false
abbrev Nm:=Nat
set_option genInjectivity true in
inductive V where
 |none
 |bool (b:Bool)
 |int (y:Bool) (i:Int)
 |str (y:Bool) (s:Str)
 |tup (vs:List V)
 |obj (i:Nat)
 |val (x:Value)
 |bi (k:Nat)
inductive O where
 |frame (b:List (Nm×V))
 |list (y:Bool) (xs:List V)
 |stk (top:List V) (u':List Value)
 |inst (C:Addr) (fs:List (Nm×V))
 |dict (ks:List Str)
 |any
def me(k:Nat):Value:=match k with
 |0=>.builtin "len"
 |1=>.builtin "isinstance"
 |2=>.type "str"
 |3=>.type "tuple"
 |4=>.type "list"
 |5=>.type "int"
 |6=>.type "range"
 |7=>.builtin "min"
 |_=>.none
def wB:Value->Bool
 | .builtin _=>false
 |_=>true
mutual
noncomputable def dH(ρ:List Addr)(h:Heap):V->Value->Prop
 | .none,x=>x= .none
 | .bool b,x=>x= .bool b
 | .int _ i,x=>∃t,x= .int i t
 | .str _ s,x=>∃t,x= .str s t
 | .tup vs,x=>∃a z',x= .ref a/\IsTup h a (List.toArray z')/\dy ρ h vs z'
 | .obj i,x=>∃a,ρ[i]?=some a/\x= .ref a
 | .val y,x=>x=y/\wB y=true
 | .bi k,x=>x=me k
noncomputable def dy(ρ:List Addr)(h:Heap):List V->List Value->Prop
 |[],l=>l=[]
 |v::vs,l=>∃x xs,l=x::xs/\dH ρ h v x/\dy ρ h vs xs
end
structure PW where
 prog:Program
 w:World
section
variable(nm:Nat->Str)
abbrev fw(z':List Value)(n:Nat):Obj:={cls:=.type "list",data:=.seq z'.toArray n}
def gX(n:Nat):List (Nat×V)->Option V
 |[]=>none
 |(k,v)::r=>match Nat.beq k n with
  |true=>some v
  |false=>gX n r
def jK(n:Nat)(v:V):List (Nat×V)->List (Nat×V)
 |[]=>[(n,v)]
 |(k,x)::r=>match Nat.beq k n with
  |true=>(k,v)::r
  |false=>(k,x)::jK n v r
def hU(ρ:List Addr)(h:Heap):List (Nm×V)->List DictEntry->Prop
 |[],es=>es=[]
 |(n,v)::fs,es=>∃hs t x r,es=⟨hs,.str (nm n) t,x⟩::r/\dH ρ h v x/\hU ρ h fs r
def j5(P:PW)(ρ:List Addr)(h:Heap)(a:Addr):O->Prop
 | .frame b=>∃m,h.Ns a m/\∀n v,gX n b=some v->∃x,m (nm n)=some x/\dH ρ h v x
 | .list _ xs=>∃z' n,h.get? a=some (fw z' n)/\dy ρ h xs z'
 | .stk top u'=>∃z' n,h.get? a=some (fw (u'++z') n)/\dy ρ h top.reverse z'
 | .inst C fs=>∃es n,0<a/\h.get? a=some (instObj C (a - 1))/\h.get? (a - 1)=some (dictOf es n)/\hU nm ρ h fs es
 | .dict ks=>∃kvs,h.DictOf (strKind P.prog P.w) a kvs/\kvs.map (·.1)=ks
 | .any=>∃o,h.get? a=some o/\o.cls≠ .type "tuple"
def foot(a:Addr):O->List Addr
 | .inst _ _=>[a,a - 1]
 |_=>[a]
end
def dA:List Addr->List O->List Addr
 |a::ρ,o::σ=>foot a o++dA ρ σ
 |_,_=>[]
section
set_option backward.match.sparseCases false
def S(l:List Nat):Str:=⟨l.toArray⟩
inductive ME where
 |oth
 |cst (c:Const)
 |loc (n:Nm)
 |glb (n:Nm)
 |tup (es:List ME)
 |lst (es:List ME)
 |dct
 |bin (op:Operator) (l r:ME)
 |not (x:ME)
 |bop (M':Bool) (es:List ME)
 |cmp (op:CmpOp) (l r:ME)
 |ite (t a b:ME)
 |attr (o:ME) (n:Nm)
 |item (o i:ME)
 |slice (o:ME) (lo hi:Option ME)
 |call (f:ME) (as:List ME)
 |meth (o:ME) (n:Nm) (as:List ME)
 |lmeth (k:Nat) (o:ME) (as:List ME)
inductive MS where
 |oth
 |expr (e:ME)
 |asg (n:Nm) (e:ME)
 |asgA (o:ME) (n:Nm) (e:ME)
 |asgI (o i:ME) (e:ME)
 |asgT (ns:List Nm) (e:ME)
 |asgD (ns:List Nm) (es:List ME)
 |aug (n:Nm) (op:Operator) (e:ME)
 |augA (o:ME) (n:Nm) (op:Operator) (e:ME)
 |ret (e:Option ME)
 |ite (t:ME) (a b:List MS)
 |while (t:ME) (b:List MS)
 |for (n:Nm) (it:ME) (b:List MS)
 |brk | cont | pass
inductive Fl where
 |next | brk | cont
 |ret (v:V)
inductive Ch where
 |b (x:Bool)
 |v (x:V)
 |ix (i:Nat)
 |k (x:V) (os:List O)
 |l (f:Fl) (os:List O)
 |r (os:List O)
abbrev jC:=Nat->List V->List O->V->List O->Prop
abbrev jz:=MS->Nat->List O->Fl->List O->Prop
abbrev uT:=Nat->List V->List O->List O->Prop
abbrev vi:=MS->Nat->List O->List O->Prop
structure St where
 os:List O
 ch:List Ch
 cs:List Prop
structure tV where
 ads:List Addr
 fn:Nat->Option (List Nm×List MS)
 cls:Nat->Option Nat
 meth:Nat->Nm->Option Nat
 fld:Nat->Nm->Bool
 glob:Nm->Option V
 orc:Nat->Bool
 spec:Nat->List V->List O->V->List O->Prop
 specL:MS->Nat->List O->Fl->List O->Prop
 room:Nat
structure Ev where
 e:ME->Nat->St->Option (V×St)
 t:ME->Nat->St->Option (Bool×St)
 ss:List MS->Nat->St->Option (Fl×St)
 c:Nat->List V->St->Option (V×St)
def nth{α:Type}:List α->Nat->Option α
 |[],_=>none
 |a::l,n=>match n with
  |0=>some a
  |n+1=>nth l n
def setN{α:Type}:List α->Nat->α->List α
 |[],_,_=>[]
 |a::l,n,x=>match n with
  |0=>x::l
  |n+1=>a::setN l n x
def choose(st:St)(p:Bool->Prop):Option (Bool×St):=match st.ch with
 | .b c::r=>some (c,⟨st.os,r,p c::st.cs⟩)
 |_=>none
def pO(st:St)(p:Prop):St:=⟨st.os,st.ch,p::st.cs⟩
def ig(st:St)(y:Bool)(n:Nat):St:=match y with
 |true=>⟨st.os,st.ch,(n<2^20)::st.cs⟩
 |false=>match Nat.blt n 4096 with
  |true=>st
  |false=>⟨st.os,st.ch,False::st.cs⟩
def ob{α β:Type}(o:Option (α×St))(f:α->St->Option β):Option β:=match o with
 |some (a,s)=>f a s
 |none=>none
def on{α β:Type}(o:Option α)(f:α->Option β):Option β:=match o with
 |some a=>f a
 |none=>none
def oi{β:Type}(b:Bool)(x y:Option β):Option β:=match b with
 |true=>x
 |false=>y
def od{α β:Type}(o:Option α)(f:α->β)(d:β):β:=match o with
 |some a=>f a
 |none=>d
def JW{β:Type}(o:Option O)(f:Bool->List V->Option β):Option β:=on o λo=>match o with
 | .list y xs=>f y xs
 |_=>none
def JY{β:Type}(o:Option O)(f:Bool->List V->Option β)(g:List V->List Value->Option β):Option β:=on o λo=>match o with
 | .list y xs=>f y xs
 | .stk top u'=>g top u'
 |_=>none
def HS{β:Type}(v:List V)(f:V->List V->Option β):Option β:=match v with
 |[]=>none
 |x::xs=>f x xs
def Kx{β:Type}(st:St)(f:V->List Ch->Option β):Option β:=match st.ch with
 |[]=>none
 |h::r=>match h with
  | .v x=>f x r
  |_=>none
def Kh{β:Type}(o:Option O)(f:Addr->List (Nm×V)->Option β):Option β:=on o λo=>match o with
 | .inst C fs=>f C fs
 |_=>none
def IC{β:Type}(v:V)(f:Bool->Option β):Option β:=match v with
 | .bool b=>f b
 |_=>none
def MH{β:Type}(v:V)(f:List V->Option β):Option β:=match v with
 | .tup vs=>f vs
 |_=>none
def LM{β:Type}(l:List V)(f:V->Option β):Option β:=match l with
 |[]=>none
 |x::l=>match l with
  |[]=>f x
  |_::_=>none
def Gs(a b:Bool):Bool:=match a with
 |true=>b
 |false=> !b
def LJ{β:Type}(st:St)(f:Fl->List O->List Ch->Option β):Option β:=match st.ch with
 |[]=>none
 |h::r=>match h with
  | .l x os=>f x os r
  |_=>none
def MK{β:Type}(st:St)(f:V->List O->List Ch->Option β):Option β:=match st.ch with
 |[]=>none
 |h::r=>match h with
  | .k x os=>f x os r
  |_=>none
def oP{α:Type}(o:Option (α×St))(K:α->St->Prop):Prop:=match o with
 |some (a,s)=>K a s
 |none=>True
section
variable{β:Type} {K:β->St->Prop}
theorem LI{α:Type}{o:Option (α×St)}{f:α->St->Option (β×St)}{P:α->St->Prop}(h:oP o P)(k:∀a s,P a s->oP (f a s) K):oP (ob o f) K:=match o,h with
 |some (a,s),h=>k a s h
 |none,_=>trivial
theorem qw{α:Type}{o:Option α}{f:α->Option (β×St)}(k:∀a,o=some a->oP (f a) K):oP (on o f) K:=match o,k with
 |some a,k=>k a rfl
 |none,_=>trivial
theorem yF{b:Bool}{x y:Option (β×St)}(h:b->oP x K)(k:b=false->oP y K):oP (oi b x y) K:=match b,h,k with
 |true,h,_=>h rfl
 |false,_,k=>k rfl
theorem oP.out{o:Option (β×St)}(h:oP o K){a:β}{s:St}(e:o=some (a,s)):K a s:=by subst e;exact h
theorem oP.into{o:Option (β×St)}(k:∀a s,o=some (a,s)->K a s):oP o K:=match o,k with
 |some (a,s),k=>k a s rfl
 |none,_=>trivial
theorem oP.mono{o:Option (β×St)}{P:β->St->Prop}(h:oP o P)(k:∀a s,P a s->K a s):oP o K:=match o,h with
 |some (a,s),h=>k a s h
 |none,_=>trivial
def lQ(ads:List Addr)(v:V)(st:St):Option (Nat×St):=match v with
 | .obj i=>some (i,st)
 | .val x=>match st.ch with
  | .ix i::r=>some (i,⟨st.os,r,((nth ads i).map Value.ref=some x)::st.cs⟩)
  |_=>none
 |_=>none
def Cb(a b:Str):Bool:=a.cps.toList==b.cps.toList
def tc(op:CmpOp)(i j:Int):Option Bool:=match op with
 | .Eq=>some (Z.eqB i j)
 | .NotEq=>some (! Z.eqB i j)
 | .Lt=>some (Z.ltB i j)
 | .LtE=>some (Z.leB i j)
 | .Gt=>some (Z.ltB j i)
 | .GtE=>some (Z.leB j i)
 |_=>none
def lG(op:CmpOp)(i j:Int)(c:Bool):Prop:=match op with
 | .Eq=>decide (i=j)=c
 | .NotEq=>decide (i≠j)=c
 | .Lt=>decide (i<j)=c
 | .LtE=>decide (i<=j)=c
 | .Gt=>decide (j<i)=c
 | .GtE=>decide (j<=i)=c
 |_=>False
def Jb(f:Bool->Bool)(p:Value->Bool->Prop)(v:V)(st:St):Option (Bool×St):=match v with
 | .none=>some (f true,st)
 | .val x=>choose st (p x)
 | .bi _=>none
 |_=>some (f false,st)
def n8(y:Bool)(s:Str):List V->Option (Bool×List Str)
 |[]=>some (false,[])
 | .str z t::r=>match n8 y s r with
  |some (b,l)=>match y||z with
   |true=>some (true,t::l)
   |false=>some (b,t::l)
  |none=>none
 |_=>none
def gG(s:Str):List Str->Bool
 |[]=>false
 |t::r=>match Cb s t with
  |true=>true
  |false=>gG s r
def H6(ads:List Addr)(b:V)(st:St):Option (Bool×St):=ob (lQ ads b st) λi st=>on (nth st.os i) λo=>match o with
 | .list _ l=>match l with
  |[]=>some (false,st)
  |_=>none
 |_=>none
def Ap(ads:List Addr)(op:CmpOp)(a b:V)(st:St):Option (Bool×St):=match op with
 | .Is=>match b with
  | .none=>Jb (λr=>r) (λx c=>decide (x=Value.none)=c) a st
  |_=>none
 | .IsNot=>match b with
  | .none=>Jb (λr=> !r) (λx c=>decide (x≠Value.none)=c) a st
  |_=>none
 | .In=>match a with
  | .str y s=>match b with
   | .tup vs=>on (n8 y s vs) λp=>oi p.1 (choose st λc=>gG s p.2=c) (some (gG s p.2,st))
   | .str _ t=>choose st λc=>Txt.contains t s=c
   |b=>H6 ads b st
  |_=>none
 | .NotIn=>match a with
  | .str y s=>match b with
   | .tup vs=>on (n8 y s vs) λp=>oi p.1 (choose st λc=>(!gG s p.2)=c) (some (!gG s p.2,st))
   | .str _ t=>choose st λc=>(!Txt.contains t s)=c
   |_=>none
  |_=>none
 |op=>match a with
  | .int y i=>match b with
   | .int z j=>oi (y||z) (choose st λc=>lG op i j c) (on (tc op i j) λc=>some (c,st))
   |_=>none
  | .str y s=>match b with
   | .str z t=>match op with
    | .Eq=>oi (y||z) (choose st λc=>decide (s=t)=c) (some (Cb s t,st))
    | .NotEq=>oi (y||z) (choose st λc=>decide (s≠t)=c) (some (! Cb s t,st))
    |_=>none
   |_=>none
  | .tup _=>match b with
   | .str _ _=>match op with
    | .Eq=>some (false,st)
    |_=>none
   |_=>none
  | .none=>match b with
   | .str _ _=>match op with
    | .Eq=>some (false,st)
    |_=>none
   |_=>none
  |_=>none
def mE(st:St)(i:Nat)(o:O):St:=⟨setN st.os i o,st.ch,st.cs⟩
def Bw(st:St)(o:O):V×St:=(.obj st.os.length,⟨st.os++[o],st.ch,st.cs⟩)
def EM(op:Operator)(a b:V)(st:St):Option (V×St):=match a with
 | .int y i=>match b with
  | .int z j=>match op with
   | .Add=>some (.int (y||z) (i+j),st)
   | .Sub=>some (.int (y||z) (i - j),st)
   | .Mult=>some (.int (y||z) (i*j),pO st (IntMulOk i j))
   | .Mod=>some (.int (y||z) (i.fmod j),pO st (j≠0))
   | .FloorDiv=>some (.int (y||z) (i.fdiv j),pO st (j≠0/\Builtin.divisionGoesByPylong i j=false))
   |_=>none
  |_=>none
 | .obj i=>match b with
  | .obj j=>match op with
   | .Add=>JW (nth st.os i) λI xs=>JW (nth st.os j) λI ys=>some ((Bw st (.list true (xs++ys))).1,pO (Bw st (.list true (xs++ys))).2 (xs.length+ys.length<=sizeLine))
   |_=>none
  |_=>none
 | .str y s=>match b with
  | .str z t=>match op with
   | .Add=>some (.str (y||z) (s++t),pO st (s.length+t.length<=sizeLine))
   |_=>none
  |_=>none
 | .tup vs=>match b with
  | .tup ws=>match op with
   | .Add=>some (.tup (vs++ws),pO st (vs.length+ws.length<=sizeLine))
   |_=>none
  |_=>none
 |_=>none
def Ad(op:Operator)(a b:V):Option V:=match op with
 | .Add=>match a with
  | .int y i=>match b with
   | .int z j=>some (.int (y||z) (i+j))
   |_=>none
  |_=>none
 |_=>none
def Dh(ads:List Addr)(v:V)(st:St):Option (V×St):=ob (lQ ads v st) λi st=>JY (nth st.os i) (λy xs=>some (.int y xs.length,ig st y xs.length))
 λtop u'=>some (.int true ((u'.length+top.length:Nat):Int),pO st (u'.length+top.length<2^62))
def HH(ads:List Addr)(v:V)(st:St):Option (V×St):=match v with
 | .str y s=>some (.int y s.length,ig st y s.length)
 | .tup vs=>some (.int false vs.length,ig st false vs.length)
 |v=>Dh ads v st
def A0(y:Bool)(k:Int):Option Nat:=match y with
 |true=>none
 |false=>match k with
  | .ofNat n=>some n
  |_=>none
def zQ(ads:List Addr)(v:V)(y:Bool)(k:Int)(st:St):Option (V×St):=ob (lQ ads v st) λj st=>JY (nth st.os j)
 (λI xs=>od (A0 y k) (λn=>on (nth xs n) λv=>some (v,ig st false n)) (Kx st λx r=>some (x,⟨st.os,r,(0<=k/\k<2^62/\nth xs k.toNat=some x)::st.cs⟩)))
 λtop u'=>HS top λv tl=>some (v,pO st (k=(u'.length+tl.length:Nat)/\k<2^62))
def xV(ads:List Addr)(o i:V)(st:St):Option (V×St):=match i with
 | .int y k=>match o with
  | .tup vs=>on (A0 y k) λn=>on (nth vs n) λv=>some (v,ig st false n)
  | .str _ s=>some (.str true ⟨#[s.cps.getD k.toNat 0]⟩,pO st (0<=k/\k<(s.length:Int)/\k<2^62))
  |v=>zQ ads v y k st
 |_=>none
def p8(v:Option V):Option (Option Int×Bool):=match v with
 |none=>some (none,false)
 |some (.int y i)=>some (some i,y)
 |_=>none
def zU(o:V)(lo hi:Option V)(st:St):Option (V×St):=match o with
 | .str y s=>on (p8 lo) λl=>on (p8 hi) λu=>some (.str (y||u.2) (Txt.slice s l.1 u.1),pO st (s.length<=sizeLine))
 |_=>none
def nO:V->List V->V×List V
 |x,[]=>(x,[])
 |x,y::r=>match nO y r with
  |(l,i)=>(l,x::i)
def AV(ads:List Addr)(k:Nat)(i:Nat)(as:List V)(st:St):Option (V×St):=match k with
  |0=>HS as λv as=>match as with
   |[]=>JY (nth st.os i) (λy xs=>some (.none,ig (mE st i (.list y (xs++[v]))) y xs.length)) λtop u'=>some (.none,ig (mE st i (.stk (v::top) u')) true (u'.length+top.length))
   |_::_=>none
  |1=>match as with
   |[]=>JY (nth st.os i) (λy xs=>HS xs λx xs=>some ((nO x xs).1,ig (mE st i (.list y (nO x xs).2)) y (x::xs).length))
     λtop u'=>HS top λv top=>some (v,ig (mE st i (.stk top u')) true (u'.length+(v::top).length))
   |a::as=>match as with
    |[]=>match a with
     | .int z k=>match z with
      |false=>match k with
       | .ofNat n=>match n with
        |0=>JW (nth st.os i) λy xs=>HS xs λx xs=>some (x,ig (mE st i (.list y xs)) y (x::xs).length)
        |_+1=>none
       |_=>none
      |true=>none
     |_=>none
    |_::_=>none
  |2=>HS as λl as=>match as with
   |[]=>ob (lQ ads l st) λj st=>JW (nth st.os j) λI ys=>JY (nth st.os i)
     (λy xs=>oi (Nat.beq i j) none (some (.none,ig (mE st i (.list y (xs++ys))) y (xs.length+ys.length))))
     λtop u'=>oi (Nat.beq i j) none (some (.none,ig (mE st i (.stk (ys.reverse++top) u')) true (u'.length+top.length+ys.length)))
   |_::_=>none
  |3=>match as with
   |[]=>JW (nth st.os i) λy xs=>some (.none,ig (mE st i (.list y xs.reverse)) y xs.length)
   |_::_=>none
  |_=>none
def Ii:O->Bool
 | .list _ _=>true
 | .stk _ _=>true
 |_=>false
def xO(x t:V)(st:St):Option (V×St):=match t with
 | .bi 2=>match x with
  | .str _ _=>some (.bool true,st)
  | .int _ _=>some (.bool false,st)
  | .tup _=>some (.bool false,st)
  |_=>none
 | .bi 3=>match x with
  | .str _ _=>some (.bool false,st)
  | .int _ _=>some (.bool false,st)
  | .tup _=>some (.bool true,st)
  |_=>none
 |_=>none
def qy:List Nm->List V->Option (List (Nm×V))
 |[],[]=>some []
 |n::ns,v::vs=>match qy ns vs with
  |some r=>some ((n,v)::r)
  |none=>none
 |_,_=>none
def Ho(e:ME->Nat->St->Option (V×St))(fi:Nat):List ME->St->Option (List V×St)
 |[],st=>some ([],st)
 |m::ms,st=>ob (e m fi st) λv st=>ob (Ho e fi ms st) λvs st=>some (v::vs,st)
def L5(e:ME->Nat->St->Option (V×St))(fi:Nat)(m:Option ME)(st:St):Option (Option V×St):=match m with
 |none=>some (none,st)
 |some m=>ob (e m fi st) λv st=>some (some v,st)
def Mw(e:ME->Nat->St->Option (V×St))(fi:Nat)(M':Bool):List ME->St->Option (V×St)
 |[],_=>none
 |m::ms,st=>match ms with
  |[]=>e m fi st
  |_::_=>ob (e m fi st) λv st=>IC v λb=>oi (Gs M' b) (Mw e fi M' ms st) (some (.bool b,st))
def LS(t:ME->Nat->St->Option (Bool×St))(fi:Nat)(M':Bool):List ME->St->Option (Bool×St)
 |[],st=>some (M',st)
 |m::ms,st=>ob (t m fi st) λb st=>oi (Gs M' b) (LS t fi M' ms st) (some (b,st))
def qB(st:St)(fi:Nat)(n:Nm):Option V:=match nth st.os fi with
 |some (.frame b)=>gX n b
 |_=>none
def gQ(st:St)(fi:Nat)(n:Nm)(v:V):Option St:=match nth st.os fi with
 |some (.frame b)=>some (mE st fi (.frame (jK n v b)))
 |_=>none
def kh(fi:Nat):List Nm->List V->St->Option St
 |[],vs,st=>match vs with
  |[]=>some st
  |_::_=>none
 |n::ns,vs,st=>match vs with
  |[]=>none
  |v::vs=>on (gQ st fi n v) λst=>kh fi ns vs st
def vL(P:tV)(o:V)(n:Nm)(st:St):Option (V×St):=ob (lQ P.ads o st) λi st=>Kh (nth st.os i) λC fs=>oi (P.fld C n) (on (gX n fs) λv=>some (v,st)) none
def xU(P:tV)(o:V)(n:Nm)(v:V)(st:St):Option (Unit×St):=ob (lQ P.ads o st) λi st=>Kh (nth st.os i) λC fs=>oi (P.fld C n) (oi (Nat.blt fs.length 900) (some (Unit.unit,mE st i (.inst C (jK n v fs)))) none) none
def Dz(P:tV)(k:Nat)(as:List V)(st:St):Option (V×St):=match k with
 |0=>LM as λx=>HH P.ads x st
 |1=>HS as λx as=>LM as λt=>xO x t st
 |4=>LM as λv=>MH v λvs=>some ((Bw st (.list true vs)).1,ig (Bw st (.list true vs)).2 true vs.length)
 |_=>none
def K1(P:tV)(ih:Ev)(a:Addr)(as:List V)(st:St):Option (V×St):=od (P.cls a)
 (λinit=>ob (ih.c init (.obj st.os.length::as) ⟨st.os++[.inst a []],st.ch,st.cs⟩) λv C'=>match v with
  | .none=>some (.obj st.os.length,C')
  |_=>none)
 (ih.c a as st)
def HQ(P:tV)(ih:Ev)(f:V)(as:List V)(st:St):Option (V×St):=match f with
 | .bi k=>Dz P k as st
 | .val x=>match x with
  | .ref a=>K1 P ih a as st
  |_=>none
 |_=>none
def EQ(P:tV)(e:ME->Nat->St->Option (V×St))(fi:Nat)(o:ME)(n:Nm)(as:List ME)(st:St):Option ((Nat×List V)×St):=
 ob (e o fi st) λv st=>ob (lQ P.ads v st) λi st=>Kh (nth st.os i) λC fs=>od (gX n fs) (λI=>none) (on (P.meth C n) λf=>ob (Ho e fi as st) λvs st=>some ((f,.obj i::vs),st))
def H9(P:tV)(ih:Ev)(m:ME)(fi:Nat)(st:St):Option (V×St):=match m with
 | .oth=>none
 | .cst c=>match c with
  | .none=>some (.none,st)
  | .bool b=>some (.bool b,st)
  | .int i=>some (.int false i,st)
  | .str s=>some (.str false s,st)
  |_=>none
 | .loc n=>on (qB st fi n) λv=>some (v,st)
 | .glb n=>on (P.glob n) λv=>some (v,st)
 | .tup es=>ob (Ho ih.e fi es st) λvs st=>oi (Nat.blt vs.length 1000) (some (.tup vs,st)) none
 | .lst es=>ob (Ho ih.e fi es st) λvs st=>oi (Nat.blt vs.length 1000) (some (Bw st (.list true vs))) none
 | .dct=>some (Bw st (.dict []))
 | .bin op l r=>ob (ih.e l fi st) λa st=>ob (ih.e r fi st) λb st=>EM op a b st
 | .not x=>ob (ih.e x fi st) λv st=>IC v λb=>some (.bool (!b),st)
 | .bop M' es=>Mw ih.e fi M' es st
 | .cmp op l r=>ob (ih.e l fi st) λa st=>ob (ih.e r fi st) λb st=>ob (Ap P.ads op a b st) λc st=>some (.bool c,st)
 | .ite t a b=>ob (ih.t t fi st) λc st=>oi c (ih.e a fi st) (ih.e b fi st)
 | .attr o n=>ob (ih.e o fi st) λv st=>vL P v n st
 | .item o i=>ob (ih.e o fi st) λa st=>ob (ih.e i fi st) λb st=>xV P.ads a b st
 | .slice o lo hi=>ob (ih.e o fi st) λa st=>ob (L5 ih.e fi lo st) λl st=>ob (L5 ih.e fi hi st) λu st=>zU a l u st
 | .call f as=>ob (ih.e f fi st) λg st=>ob (Ho ih.e fi as st) λvs st=>HQ P ih g vs st
 | .meth o n as=>ob (EQ P ih.e fi o n as st) λq st=>ih.c q.1 q.2 st
 | .lmeth k o as=>ob (ih.e o fi st) λv st=>ob (lQ P.ads v st) λi st=>on (nth st.os i) λq=>oi (Ii q) (ob (Ho ih.e fi as st) λvs st=>AV P.ads k i vs st) none
def H5(P:tV)(ih:Ev)(m:ME)(fi:Nat)(st:St):Option (Bool×St):=match m with
 | .not x=>ob (ih.t x fi st) λb st=>some (!b,st)
 | .bop M' es=>LS ih.t fi M' es st
 | .ite t a b=>ob (ih.t t fi st) λc st=>oi c (ih.t a fi st) (ih.t b fi st)
 | .cmp op l r=>ob (ih.e l fi st) λa st=>ob (ih.e r fi st) λb st=>Ap P.ads op a b st
 | .loc n=>on (qB st fi n) λv=>IC v λb=>some (b,st)
 | .call f as=>ob (ih.e (.call f as) fi st) λv st=>IC v λb=>some (b,st)
 | .meth o n as=>ob (ih.e (.meth o n as) fi st) λv st=>IC v λb=>some (b,st)
 |_=>none
def Fb:V->Bool
 | .none=>true
 | .int _ _=>true
 | .bool _=>true
 |_=>false
def Lu(j:Nat)(q:O)(k v:V)(st:St):Option (Fl×St):=match q with
 | .list y xs=>match k with
  | .int z k=>on (A0 z k) λn=>on (nth xs n) λI=>some (.next,ig (mE st j (.list y (setN xs n v))) false n)
  |_=>none
 | .dict ks=>match k with
  | .str _ s=>match ks with
   |[]=>some (.next,mE st j (.dict [s]))
   |t::r=>match r with
    |[]=>some (.next,pO (mE st j (.dict [t])) (s=t))
    |_::_=>none
  |_=>none
 |_=>none
def jk(P:tV)(ih:Ev)(x:MS)(fi:Nat)(st:St):Option (Fl×St):=match x with
 | .expr e=>ob (ih.e e fi st) λv st=>oi (Fb v) (some (.next,st)) none
 | .asg n e=>ob (ih.e e fi st) λv st=>on (gQ st fi n v) λst=>some (.next,st)
 | .asgA o n e=>ob (ih.e e fi st) λv st=>ob (ih.e o fi st) λa st=>ob (xU P a n v st) λI st=>some (.next,st)
 | .asgI o i e=>ob (ih.e e fi st) λv st=>ob (ih.e o fi st) λa st=>ob (ih.e i fi st) λk st=>ob (lQ P.ads a st) λj st=>on (nth st.os j) λq=>Lu j q k v st
 | .asgT ns e=>ob (ih.e e fi st) λv st=>MH v λvs=>on (kh fi ns vs st) λst=>some (.next,st)
 | .asgD ns es=>ob (Ho ih.e fi es st) λvs st=>on (kh fi ns.reverse vs.reverse st) λst=>some (.next,st)
 | .aug n op e=>on (qB st fi n) λa=>ob (ih.e e fi st) λb st=>on (Ad op a b) λv=>on (gQ st fi n v) λst=>some (.next,st)
 | .augA o n op e=>ob (ih.e o fi st) λq st=>ob (vL P q n st) λa st=>ob (ih.e e fi st) λb st=>on (Ad op a b) λv=>ob (xU P q n v st) λI st=>some (.next,st)
 | .ret e=>match e with
  |none=>some (.ret .none,st)
  |some e=>ob (ih.e e fi st) λv st=>some (.ret v,st)
 | .ite t a b=>ob (ih.t t fi st) λc st=>oi c (ih.ss a fi st) (ih.ss b fi st)
 | .brk=>some (.brk,st)
 | .cont=>some (.cont,st)
 | .pass=>some (.next,st)
 | .while t b=>LJ st λf os r=>some (f,⟨os,r,P.specL (.while t b) fi st.os f os::st.cs⟩)
 | .for n it b=>LJ st λf os r=>some (f,⟨os,r,P.specL (.for n it b) fi st.os f os::st.cs⟩)
 | .oth=>none
def ES(P:tV)(ih:Ev)(l:List MS)(fi:Nat)(st:St):Option (Fl×St):=match l with
 |[]=>some (.next,st)
 |x::r=>ob (jk P ih x fi st) λf st=>match f with
  | .next=>ih.ss r fi st
  |f=>some (f,st)
def H3(P:tV)(ih:Ev)(f:Nat)(as:List V)(st:St):Option (V×St):=oi (P.orc f)
 (MK st λv os r=>some (v,⟨os,r,P.spec f as st.os v os::st.cs⟩))
 (on (P.fn f) λq=>on (qy q.1 as) λb=>ob (ih.ss q.2 st.os.length ⟨st.os++[.frame b],st.ch,st.cs⟩) λf st=>match f with
  | .ret v=>some (v,st)
  | .next=>some (.none,st)
  |_=>none)
def ev(P:tV):Nat->Ev
 |0=>⟨λI I I=>none,λI I I=>none,λI I I=>none,λI I I=>none⟩
 |n+1=>⟨H9 P (ev P n),H5 P (ev P n),ES P (ev P n),H3 P (ev P n)⟩
def jA{α:Type}(n:Nat):List (Nat×α)->Option α
 |[]=>none
 |(k,v)::r=>match Nat.beq k n with
  |true=>some v
  |false=>jA n r
end
end
section
set_option backward.match.sparseCases false
theorem fR{α:Type}:∀{l:List α} {n:Nat} {x:α},nth l n=some x->n<l.length
 |[],_,_,h=>by injection h
 |a::l,0,_,_=>Nat.zero_lt_succ _
 |a::l,n+1,x,h=>Nat.succ_lt_succ (fR (l:=l) h)
theorem jE{α:Type}:∀{l:List α} {n:Nat} {x:α} (r:List α),nth l n=some x->nth (l++r) n=some x
 |[],_,_,_,h=>by injection h
 |a::l,0,_,_,h=>h
 |a::l,n+1,x,r,h=>jE (l:=l) r h
theorem gr{α:Type}:∀(l:List α) (x:α),nth (l++[x]) l.length=some x
 |[],_=>rfl
 |_::l,x=>gr l x
theorem km{α:Type}:∀{l:List α} {n:Nat} {x y:α},nth (l++[y]) n=some x->nth l n=some x\/(n=l.length/\x=y)
 |[],0,x,y,h=>.inr ⟨rfl,(ac h).symm⟩
 |[],n+1,x,y,h=>by injection h
 |a::l,0,x,y,h=>.inl h
 |a::l,n+1,x,y,h=>(km (l:=l) h).imp id λq=>⟨by rw[q.1];rfl,q.2⟩
theorem dP{α:Type}:∀(l:List α) (n:Nat),nth l n=l[n]?
 |[],_=>rfl
 |a::l,0=>rfl
 |a::l,n+1=>by rw[List.getElem?_cons_succ,<-dP l n];rfl
theorem pd{α:Type}:∀(l:List α) (n:Nat) (x:α),(setN l n x).length=l.length
 |[],_,_=>rfl
 |_::_,0,_=>rfl
 |_::l,n+1,x=>az (·+1) (pd l n x)
theorem pG{α:Type}:∀{l:List α} {n j:Nat} {x y:α},nth (setN l n x) j=some y->(j=n/\y=x)\/(j≠n/\nth l j=some y)
 |[],_,_,_,_,h=>by injection h
 |a::l,0,0,x,y,h=>.inl ⟨rfl,(ac h).symm⟩
 |a::l,0,j+1,x,y,h=>.inr ⟨Nat.succ_ne_zero j,h⟩
 |a::l,n+1,0,x,y,h=>.inr ⟨(Nat.succ_ne_zero n).symm,h⟩
 |a::l,n+1,j+1,x,y,h=>(pG (l:=l) h).imp (λq=>⟨by rw[q.1],q.2⟩) λq=>⟨λe=>q.1 (Nat.succ.inj e),q.2⟩
theorem j9{α:Type}:∀(l:List α) {n j:Nat} (x:α),j≠n->nth (setN l n x) j=nth l j
 |[],_,_,_,_=>rfl
 |a::l,0,0,_,h=>absurd rfl h
 |a::l,0,j+1,_,_=>rfl
 |a::l,n+1,0,_,_=>rfl
 |a::l,n+1,j+1,x,h=>j9 l x λe=>h (by rw[e])
theorem mv{α:Type}:∀{l:List α} {n:Nat} {y:α} (x:α),nth l n=some y->nth (setN l n x) n=some x
 |[],_,_,_,h=>by injection h
 |a::l,0,_,_,_=>rfl
 |a::l,n+1,_,x,h=>mv (l:=l) x h
theorem jI{α β:Type}:∀{l:List α} {r:List β} {n:Nat} {x:α},l.length=r.length->nth l n=some x->∃y,nth r n=some y
 |[],_,_,_,_,h=>by injection h
 |_::_,[],_,_,h,_=>by injection h
 |a::l,b::r,0,_,_,_=>⟨b,rfl⟩
 |a::l,b::r,n+1,x,e,h=>jI (l:=l) (r:=r) (Nat.succ.inj e) h
def eB(ρ ρ':List Addr):Prop:=∀i a,nth ρ i=some a->nth ρ' i=some a
theorem eB.refl(ρ:List Addr):eB ρ ρ:=λI I h=>h
theorem eB.trans{a b c:List Addr}(x:eB a b)(y:eB b c):eB a c:=λi d h=>y i d (x i d h)
theorem eB.app(ρ l:List Addr):eB ρ (ρ++l):=λI I h=>jE l h
def fU(h h':Heap):Prop:=∀a z',IsTup h a z'->IsTup h' a z'
theorem fU.of_keeps{h h':Heap}(k:∀b o,h.get? b=some o->h'.get? b=some o):fU h h':=λI I x=>x.keeps k
mutual
theorem dH.mono{ρ ρ':List Addr}{h h':Heap}(g:∀(i:Nat) (a:Addr),ρ[i]?=some a->ρ'[i]?=some a)(k:fU h h'):∀{v:V} {x:Value},dH ρ h v x->dH ρ' h' v x
 | .none,_,e=>e
 | .bool _,_,e=>e
 | .int _ _,_,e=>e
 | .str _ _,_,e=>e
 | .tup _,_,zh2=>by
  obtain⟨a,z',e,t,r⟩:=zh2;exact⟨a,z',e,k _ _ t,dy.mono g k r⟩
 | .obj _,_,zh2=>by
  obtain⟨a,e,q⟩:=zh2;exact⟨a,g _ _ e,q⟩
 | .val _,_,e=>e
 | .bi _,_,e=>e
theorem dy.mono{ρ ρ':List Addr}{h h':Heap}(g:∀(i:Nat) (a:Addr),ρ[i]?=some a->ρ'[i]?=some a)(k:fU h h'):∀{v:List V} {x:List Value},dy ρ h v x->dy ρ' h' v x
 |[],_,e=>e
 |_::_,_,zh2=>by
  obtain⟨x,xs,e,a,b⟩:=zh2;exact⟨x,xs,e,dH.mono g k a,dy.mono g k b⟩
end
section
variable{ρ ρ':List Addr} {h h' h₀:Heap} {nm:Nat->Str} {a b:Addr} {P:PW} {o o':O} {σ σ':List O} {i:Nat} {s s':Shared}
theorem eB.get(g:eB ρ ρ'):∀(i:Nat) (a:Addr),ρ[i]?=some a->ρ'[i]?=some a:=λi a e=>by
 rw[<-dP] at e ⊢;exact g i a e
theorem dH.up{v:V}{x:Value}(r:dH ρ h v x)(g:eB ρ ρ')(k:fU h h'):dH ρ' h' v x:=r.mono g.get k
theorem dy.up{v:List V}{x:List Value}(r:dy ρ h v x)(g:eB ρ ρ')(k:fU h h'):dy ρ' h' v x:=r.mono g.get k
theorem dy.nil:dy ρ h [] []:=rfl
theorem dy.cons{v:V}{x:Value}{vs:List V}{xs:List Value}(a:dH ρ h v x)(b:dy ρ h vs xs):dy ρ h (v::vs) (x::xs):=⟨x,xs,rfl,a,b⟩
theorem dy.length:∀{vs:List V} {xs:List Value},dy ρ h vs xs->xs.length=vs.length
 |[],_,e=>by cases e;rfl
 |_::_,_,zh2=>by
  obtain⟨_,_,e,_,r⟩:=zh2;subst e;exact az (·+1) r.length
theorem dy.app:∀{vs ws:List V} {xs ys:List Value},dy ρ h vs xs->dy ρ h ws ys->dy ρ h (vs++ws) (xs++ys)
 |[],_,_,_,e,r=>by cases e;exact r
 |_::_,_,_,_,zh4,r=>by
  obtain⟨x,xs,e,a,b⟩:=zh4;subst e;exact⟨x,_,rfl,a,b.app r⟩
theorem dy.nth{ρ:List Addr}{h:Heap}:∀{vs:List V} {xs:List Value} {n:Nat} {v:V},dy ρ h vs xs->Internal.nth vs n=some v->∃x,xs[n]?=some x/\dH ρ h v x
 |[],_,_,_,_,e=>by injection e
 |w::vs,_,0,v,zh4,q=>by
  obtain⟨x,xs,e,a,b⟩:=zh4;subst e;cases q;exact⟨x,by simp,a⟩
 |w::vs,_,n+1,v,zh4,q=>by
  obtain⟨x,xs,e,a,b⟩:=zh4;subst e;obtain⟨y,hy,r⟩:=dy.nth (n:=n) b q;exact⟨y,by simpa using hy,r⟩
theorem dy.setN{ρ:List Addr}{h:Heap}{v:V}{x:Value}(hv:dH ρ h v x):∀{vs:List V} {xs:List Value} (n:Nat),dy ρ h vs xs->dy ρ h (Internal.setN vs n v) (xs.set n x)
 |[],_,n,e=>by cases e;exact rfl
 |w::vs,_,0,zh3=>by
  obtain⟨y,ys,e,a,b⟩:=zh3;subst e;exact⟨x,ys,rfl,hv,b⟩
 |w::vs,_,n+1,zh3=>by
  obtain⟨y,ys,e,a,b⟩:=zh3;subst e;exact⟨y,_,rfl,a,dy.setN hv n b⟩
theorem hU.up(g:eB ρ ρ')(k:fU h h'):∀{fs:List (Nm×V)} {es:List DictEntry},hU nm ρ h fs es->hU nm ρ' h' fs es
 |[],_,e=>e
 |_::_,_,zh2=>by
  obtain⟨hs,t,x,r,e,a,b⟩:=zh2;exact⟨hs,t,x,r,e,a.up g k,b.up g k⟩
def IW(x:Obj):Prop:=x.cls= .type "tuple"/\∃z' n,x.data= .seq z' n
def uV(h:Heap)(b:Addr):Prop:=∃x,h.get? b=some x/\¬IW x
theorem uV.one{x:Obj}(e:h.get? a=some x)(q:¬IW x):∀b∈[a],uV h b:=λb m=>aj.mp m▸⟨x,e,q⟩
theorem sd{x:Obj}{c:Value}(e:x.cls=c)(ne:c≠ .type "tuple"):¬IW x:=λt=>ne (e.symm.trans t.1)
theorem j5.spot(r:j5 nm P ρ h a o):∀b∈foot a o,uV h b:=by
 cases o with
 |frame m=>
  obtain⟨m',⟨o,es,ep,ho,hd',_⟩,_⟩:=r;exact uV.one ho λt=>by obtain⟨_,z',n,hd⟩:=t;rw[hd'] at hd;injection hd
 |list y xs=>
  obtain⟨z',n,ho,_⟩:=r;exact uV.one ho (sd rfl λe=>absurd (cq e) ())
 |stk top u'=>
  obtain⟨z',n,ho,_⟩:=r;exact uV.one ho (sd rfl λe=>absurd (cq e) ())
 |inst C fs=>
  obtain⟨es,n,_,h1,h2,_⟩:=r;exact λb m=>(aD.mp m).elim (λe=>e▸⟨_,h1,sd rfl λe=>by injection e⟩) (uV.one h2 (sd rfl λe=>absurd (cq e) ()) b)
 |dict ks=>
  obtain⟨kvs,⟨o,es,n,ho,⟨hcl,_⟩,_⟩,_⟩:=r;exact uV.one ho (sd hcl λe=>absurd (cq e) ())
 |any=>
  obtain⟨o,ho,hn⟩:=r;exact uV.one ho λt=>hn t.1
theorem j5.notTup(r:j5 nm P ρ h a o)(b:Addr)(hb:b∈foot a o)(z':Array Value):¬IsTup h b z':=λz=>by
 obtain⟨t,ht,hc,n,hd⟩:=z;obtain⟨x,e,q⟩:=r.spot b hb;exact q (ac (ht.symm.trans e)▸⟨hc,z',n,hd⟩)
theorem j5.there(r:j5 nm P ρ h a o)(b:Addr)(hb:b∈foot a o):∃x,h.get? b=some x:=by
 obtain⟨x,e,q⟩:=r.spot b hb;exact⟨x,e⟩
theorem j5.up(g:eB ρ ρ')(k:fU h h')(s:∀b∈foot a o,∀x,h.get? b=some x->h'.get? b=some x)(r:j5 nm P ρ h a o):j5 nm P ρ' h' a o:=by
 cases o with
 |frame m=>
  obtain⟨m',⟨o,es,ep,ho,hd',hk,hf⟩,z⟩:=r;exact⟨m',⟨o,es,ep,s a (.head _) _ ho,hd',hk,hf⟩,λn v e=>let⟨x,p,q⟩:=z n v e;⟨x,p,q.up g k⟩⟩
 |list y xs=>
  obtain⟨z',n,ho,z⟩:=r;exact⟨z',n,s a (.head _) _ ho,z.up g k⟩
 |stk top u'=>
  obtain⟨z',n,ho,z⟩:=r;exact⟨z',n,s a (.head _) _ ho,z.up g k⟩
 |inst C fs=>
  obtain⟨es,n,h0,h1,h2,z⟩:=r;exact⟨es,n,h0,s a (.head _) _ h1,s (a - 1) (.tail _ (.head _)) _ h2,z.up g k⟩
 |dict ks=>
  obtain⟨kvs,⟨o,es,n,ho,z⟩,e⟩:=r;exact⟨kvs,⟨o,es,n,s a (.head _) _ ho,z⟩,e⟩
 |any=>
  obtain⟨o,ho,hn⟩:=r;exact⟨o,s a (.head _) _ ho,hn⟩
theorem dC:∀{ρ:List Addr} {σ:List O} {b:Addr},b∈dA ρ σ↔∃i a o,nth ρ i=some a/\nth σ i=some o/\b∈foot a o
 |[],σ,b=>by
   constructor
   .intro h;cases h
   .rintro⟨i,a,o,e,_⟩;injection e
 |a::ρ,[],b=>by
   constructor
   .intro h;cases h
   .rintro⟨i,a,o,_,e,_⟩;injection e
 |a::ρ,o::σ,b=>by
  show b∈foot a o++dA ρ σ↔_;rw[bj,dC];constructor
  .rintro(h | ⟨i,a',o',e1,e2,h⟩)
   .exact⟨0,a,o,rfl,rfl,h⟩
   .exact⟨i+1,a',o',e1,e2,h⟩
  .rintro⟨i,a',o',e1,e2,h⟩
   cases i with
   |zero=>cases e1;cases e2;exact .inl h
   |succ i=>exact .inr ⟨i,a',o',e1,e2,h⟩
structure kB(nm:Nat->Str)(P:PW)(h₀:Heap)(ρ:List Addr)(σ:List O)(h:Heap):Prop where
 len:ρ.length=σ.length
 rep:∀i a o,nth ρ i=some a->nth σ i=some o->j5 nm P ρ h a o
 apart:∀i j a b o q,nth ρ i=some a->nth σ i=some o->nth ρ j=some b->nth σ j=some q->i≠j->∀x∈foot a o,x∉foot b q
 new:∀x∈dA ρ σ,h₀.get? x=none
 old:∀b o,h₀.get? b=some o->h.get? b=some o
theorem kB.there(R:kB nm P h₀ ρ σ h)(m:b∈dA ρ σ):∃x,h.get? b=some x:=by
 obtain⟨i,a,o,e1,e2,m⟩:=dC.mp m;exact(R.rep i a o e1 e2).there b m
theorem kB.notTup(R:kB nm P h₀ ρ σ h)(m:b∈dA ρ σ)(z':Array Value):¬IsTup h b z':=by
 obtain⟨i,a,o,e1,e2,m⟩:=dC.mp m;exact(R.rep i a o e1 e2).notTup b m z'
theorem kB.tupKeep(R:kB nm P h₀ ρ σ h)(k:∀b x,h.get? b=some x->b∉dA ρ σ->h'.get? b=some x):fU h h':=λa z' t=>by
 have:=t;obtain⟨o,ho,r⟩:=t;exact⟨o,k a o ho λm=>R.notTup m z' this,r⟩
theorem kB.keeps(R:kB nm P h₀ ρ σ h)(k:∀b x,h.get? b=some x->h'.get? b=some x):kB nm P h₀ ρ σ h':=
 ⟨R.len,λi a o e1 e2=>(R.rep i a o e1 e2).up (.refl _) (.of_keeps k) λb I x e=>k b x e,R.apart,R.new,λb o e=>k b o (R.old b o e)⟩
theorem kB.cell(R:kB nm P h₀ ρ σ h)(e:nth σ i=some o):∃a,nth ρ i=some a/\j5 nm P ρ h a o:=by
 obtain⟨a,ha⟩:=jI R.len.symm e;exact⟨a,ha,R.rep i a o ha e⟩
theorem kB.at(R:kB nm P h₀ ρ σ h)(ha:nth ρ i=some a)(e:nth σ i=some o):j5 nm P ρ h a o:=R.rep i a o ha e
theorem yM{j:Nat}{q:O}(ha:nth ρ i=some a)(ho:nth σ i=some o)(hf:foot a o'=foot a o)(e1:nth ρ j=some b)(e2:nth (setN σ i o') j=some q):∃q',nth σ j=some q'/\foot b q=foot b q':=by
 rcases pG e2 with g | g
 .have eb:=ac (ha.symm.trans (g.1▸e1))
  exact⟨o,g.1▸ho,by rw[g.2,<-eb];exact hf⟩
 .exact⟨q,g.2,rfl⟩
theorem wV{x:Addr}(ha:nth ρ i=some a)(ho:nth σ i=some o)(hf:foot a o'=foot a o)(m:x∈dA ρ (setN σ i o')):x∈dA ρ σ:=by
 obtain⟨j,b,q,e1,e2,m⟩:=dC.mp m;obtain⟨q',f1,f2⟩:=yM ha ho hf e1 e2;exact dC.mpr ⟨j,b,q',e1,f1,f2▸m⟩
theorem kB.set(R:kB nm P h₀ ρ σ h)(ha:nth ρ i=some a)(ho:nth σ i=some o)(hf:foot a o'=foot a o)
  (k:∀b x,h.get? b=some x->b∉foot a o->h'.get? b=some x) (r:j5 nm P ρ h' a o'):kB nm P h₀ ρ (setN σ i o') h':=by
 refine⟨by rw[pd];exact R.len,λj b q e1 e2=>?_,λj l b c q t e1 e2 e3 e4 ne x m=>?_,λx m=>R.new x (wV ha ho hf m),λb x e=>?_⟩
 .rcases pG e2 with g | g
  .have eb:a=b:=ac (ha.symm.trans (g.1▸e1))
   rw[g.2,<-eb];exact r
  .exact(R.rep j b q e1 g.2).up (.refl _) (R.tupKeep λb x e m=>k b x e λq=>m (dC.mpr ⟨i,a,o,ha,ho,q⟩)) λc m x z=>k c x z (R.apart j i b a q o e1 g.2 ha ho g.1 c m)
 .obtain⟨q',f1,f2⟩:=yM ha ho hf e1 e2
  obtain⟨t',g1,g2⟩:=yM ha ho hf e3 e4;exact g2▸R.apart j l b c q' t' e1 f1 e3 g1 ne x (f2▸m)
 .refine k b x (R.old b x e) λm=>?_
  have:=R.new b (dC.mpr ⟨i,a,o,ha,ho,m⟩);rw[e] at this;injection this
theorem l9:∀{ρ:List Addr} {σ:List O} (a:Addr) (o:O),ρ.length=σ.length->∀x,x∈dA (ρ++[a]) (σ++[o])↔x∈dA ρ σ\/x∈foot a o
 |[],[],a,o,_,x=>by
  show x∈foot a o++[]↔x∈[]\/x∈foot a o;simp
 |[],_::_,_,_,e,_=>by injection e
 |_::_,[],_,_,e,_=>by injection e
 |b::ρ,q::σ,a,o,e,x=>by
  show x∈foot b q++dA (ρ++[a]) (σ++[o])↔x∈foot b q++dA ρ σ\/_;rw[bj,bj,l9 a o (Nat.succ.inj e),or_assoc]
theorem pC{q:O}(len:ρ.length=σ.length)(e1:nth (ρ++[a]) i=some b)(e2:nth (σ++[o]) i=some q):(nth ρ i=some b/\nth σ i=some q)\/(i=ρ.length/\foot b q=foot a o/\b=a/\q=o):=
 (km e1).elim (λf1=>(km e2).elim (λf2=>.inl ⟨f1,f2⟩) λg=>absurd (fR f1) (cF.mpr (aY (len.trans g.1.symm))))
  λf=>(km e2).elim (λf2=>absurd (fR f2) (cF.mpr (aY (len.symm.trans f.1.symm)))) λg=>.inr ⟨f.1,f.2▸g.2▸rfl,f.2,g.2⟩
theorem kB.push(R:kB nm P h₀ ρ σ h)(k:∀b x,h.get? b=some x->h'.get? b=some x)(nf:∀x∈foot a o,h.get? x=none)
  (r:j5 nm P (ρ++[a]) h' a o):kB nm P h₀ (ρ++[a]) (σ++[o]) h':=by
 have fresh:∀x∈foot a o,x∉dA ρ σ:=λx m q=>by
  obtain⟨y,e⟩:=R.there q;rw[nf x m] at e;injection e
 refine⟨by rw[ai,ai,R.len];rfl,λi b q e1 e2=>?_,λi j b c q t e1 e2 e3 e4 ne x m m'=>?_,λx m=>?_,λb x e=>k b x (R.old b x e)⟩
 .exact(pC R.len e1 e2).elim (λf=>(R.rep i b q f.1 f.2).up (.app ρ [a]) (.of_keeps k) λb I x e=>k b x e) λg=>by rw[g.2.2.1,g.2.2.2];exact r
 .exact(pC R.len e1 e2).elim (λf=>(pC R.len e3 e4).elim (λg=>R.apart i j b c q t f.1 f.2 g.1 g.2 ne x m m') λg=>fresh x (g.2.1▸m') (dC.mpr ⟨i,b,q,f.1,f.2,m⟩))
   λf=>(pC R.len e3 e4).elim (λg=>fresh x (f.2.1▸m) (dC.mpr ⟨j,c,t,g.1,g.2,m'⟩)) λg=>ne (f.1.trans g.1.symm)
 .refine((l9 a o R.len x).mp m).elim (R.new x) λm=>?_
  cases e:h₀.get? x with
  |none=>rfl
  |some y=>have:=R.old x y e;rw[nf x m] at this;injection this
structure eR(nm:Nat->Str)(P:PW)(h₀:Heap)(ρ:List Addr)(σ:List O)(s:Shared)(ρ':List Addr)(σ':List O)(s':Shared):Prop where
 grow:eB ρ ρ'
 rel:kB nm P h₀ ρ' σ' s'.heap
 keep:∀b x,s.heap.get? b=some x->b∉dA ρ σ->s'.heap.get? b=some x
 fresh:∀x∈dA ρ' σ',x∈dA ρ σ\/s.heap.get? x=none
 gens:s'.gens=s.gens
 os:s'.os=s.os
 frm:∀i m,nth σ i=some (.frame m)->∃m',nth σ' i=some (.frame m')
theorem eR.refl(R:kB nm P h₀ ρ σ s.heap):eR nm P h₀ ρ σ s ρ σ s:=⟨.refl _,R,λI I e I=>e,λI m=>.inl m,rfl,rfl,λI m e=>⟨m,e⟩⟩
theorem eR.trans{ρ'':List Addr}{σ'':List O}{s'':Shared}(a:eR nm P h₀ ρ σ s ρ' σ' s')(b:eR nm P h₀ ρ' σ' s' ρ'' σ'' s''):eR nm P h₀ ρ σ s ρ'' σ'' s'':=by
 refine⟨a.grow.trans b.grow,b.rel,λc x e m=>?_,λx m=>?_,b.gens.trans a.gens,b.os.trans a.os,λi m e=>let⟨m1,e1⟩:=a.frm i m e;b.frm i m1 e1⟩
 .refine b.keep c x (a.keep c x e m) λq=>?_
  rcases a.fresh c q with q | q
  .exact m q
  .rw[e] at q;injection q
 .rcases b.fresh x m with q | q
  .exact a.fresh x q
  .cases e:s.heap.get? x with
   |none=>exact .inr rfl
   |some y=>
    by_cases m':x∈dA ρ σ
    .exact .inl m'
    .rw[a.keep x y e m'] at q;injection q
theorem eR.tk(a:eR nm P h₀ ρ σ s ρ' σ' s')(R:kB nm P h₀ ρ σ s.heap):fU s.heap s'.heap:=R.tupKeep a.keep
theorem eR.v(a:eR nm P h₀ ρ σ s ρ' σ' s')(R:kB nm P h₀ ρ σ s.heap){v:V}{x:Value}(r:dH ρ s.heap v x):dH ρ' s'.heap v x:=r.up a.grow (a.tk R)
theorem eR.vs(a:eR nm P h₀ ρ σ s ρ' σ' s')(R:kB nm P h₀ ρ σ s.heap){v:List V}{x:List Value}(r:dy ρ s.heap v x):dy ρ' s'.heap v x:=r.up a.grow (a.tk R)
theorem eR.more0(R:kB nm P h₀ ρ σ s.heap)(k:∀b x,s.heap.get? b=some x->s'.heap.get? b=some x)(hg:s'.gens=s.gens)(ho:s'.os=s.os):eR nm P h₀ ρ σ s ρ σ s':=
 ⟨.refl _,R.keeps k,λb x e I=>k b x e,λI m=>.inl m,hg,ho,λI m e=>⟨m,e⟩⟩
theorem eR.more(R:kB nm P h₀ ρ σ s.heap)(k:∀b x,s.heap.get? b=some x->s'.heap.get? b=some x)(hg:s'.gens=s.gens)(ho:s'.os=s.os)(_hz:s.heap.objs.size<=s'.heap.objs.size):eR nm P h₀ ρ σ s ρ σ s':=
 ⟨.refl _,R.keeps k,λb x e I=>k b x e,λI m=>.inl m,hg,ho,λI m e=>⟨m,e⟩⟩
def Mz:O->Bool
 | .frame _=>true
 |_=>false
theorem hkF{x y:List (Nm×V)}:∀m,O.frame x= .frame m->∃m',O.frame y= .frame m':=λI I=>⟨y,rfl⟩
theorem hkN(h:Mz o=false):∀m,o= .frame m->∃m',o'= .frame m':=λm e=>by rw[e] at h;cases h
theorem eR.setC(R:kB nm P h₀ ρ σ s.heap)(ha:nth ρ i=some a)(ho:nth σ i=some o)(hf:foot a o'=foot a o)
  (k:∀b x,s.heap.get? b=some x->b∉foot a o->s'.heap.get? b=some x) (r:j5 nm P ρ s'.heap a o') (hg:s'.gens=s.gens) (hos:s'.os=s.os) (_hz:s.heap.objs.size<=s'.heap.objs.size)
  (hk:∀m,o= .frame m->∃m',o'= .frame m':=by walk_at "f"):
  eR nm P h₀ ρ σ s ρ (setN σ i o') s':=by
 refine⟨.refl _,R.set ha ho hf k r,λb x e m=>k b x e λq=>m (dC.mpr ⟨i,a,o,ha,ho,q⟩),λx m=>.inl (wV ha ho hf m),hg,hos,λj m e=>?_⟩
 by_cases q:j=i
 .obtain⟨m',e'⟩:=hk m (ac (ho.symm.trans (q▸e)))
  exact⟨m',by rw[q,mv _ ho,e']⟩
 .exact⟨m,(j9 _ _ q).trans e⟩
theorem eR.pushC(R:kB nm P h₀ ρ σ s.heap)(k:∀b x,s.heap.get? b=some x->s'.heap.get? b=some x)(nf:∀x∈foot a o,s.heap.get? x=none)
  (r:j5 nm P (ρ++[a]) s'.heap a o) (hg:s'.gens=s.gens) (hos:s'.os=s.os) (_hz:s.heap.objs.size<=s'.heap.objs.size):eR nm P h₀ ρ σ s (ρ++[a]) (σ++[o]) s':=
 ⟨.app _ _,R.push k nf r,λb x e I=>k b x e,λx m=>((l9 a o R.len x).mp m).imp id (nf x),hg,hos,λI m e=>⟨m,jE _ e⟩⟩
end
end
section
set_option backward.match.sparseCases false
theorem cW{a b:Bool}(h:(a&&b)=true):a=true/\b=true:=a9.mp h
/-! what a text holds -/
structure MR where
 t:Nat:=0
 p:Pos:=default
 e1:Expr:=default
 e2:Expr:=default
 l:List Expr:=[]
 n:Nat:=0
 a:Option Expr:=none
 b:Option Expr:=none
 c:Option Expr:=none
 s:Scope:=default
 o:Operator:=.Add
 os:List CmpOp:=[]
 bo:BoolOp:=.Or
 x:Str:=default
 k:Const:=.none
 ks:List Keyword:=[]
 gs:List Comprehension:=[]
 e3:Expr:=default
 uo:UnaryOp:=.Not
 dk:List (Option Expr):=[]
def de:Expr->MR
 | .Call f as ks p=>{t:=1,p,e1:=f,l:=as,ks}
 | .Attribute o x p=>{t:=2,p,e1:=o,x}
 | .Subscript o i p=>{t:=3,p,e1:=o,e2:=i}
 | .BinOp l o r p=>{t:=4,p,e1:=l,o,e2:=r}
 | .Compare l os r p=>{t:=5,p,e1:=l,os,l:=r}
 | .ListComp e gs s p=>{t:=6,p,e1:=e,gs,s}
 | .BoolOp bo l p=>{t:=7,p,bo,l}
 | .Tuple l n p=>{t:=8,p,l,n}
 | .List l p=>{t:=9,p,l}
 | .Constant k n p=>{t:=10,p,k,n}
 | .Name x p=>{t:=11,p,x}
 | .Slice a b c p=>{t:=12,p,a,b,c}
 | .UnaryOp uo e p=>{t:=13,p,uo,e1:=e}
 | .IfExp a b c p=>{t:=14,p,e1:=a,e2:=b,e3:=c}
 | .Dict dk l p=>{t:=15,p,dk,l}
 | .Starred _ _=>{t:=16}
 | .SetComp _ _ _ _=>{t:=17}
 | .DictComp _ _ _ _ _=>{t:=17}
 |_=>{}
def My(y:Expr)(K:MR):Nat->Expr
 |1=>.Call K.e1 K.l K.ks K.p
 |2=>.Attribute K.e1 K.x K.p
 |3=>.Subscript K.e1 K.e2 K.p
 |4=>.BinOp K.e1 K.o K.e2 K.p
 |5=>.Compare K.e1 K.os K.l K.p
 |6=>.ListComp K.e1 K.gs K.s K.p
 |7=>.BoolOp K.bo K.l K.p
 |8=>.Tuple K.l K.n K.p
 |9=>.List K.l K.p
 |10=>.Constant K.k K.n K.p
 |11=>.Name K.x K.p
 |12=>.Slice K.a K.b K.c K.p
 |13=>.UnaryOp K.uo K.e1 K.p
 |14=>.IfExp K.e1 K.e2 K.e3 K.p
 |15=>.Dict K.dk K.l K.p
 |_=>y
theorem L3(y:Expr):My y (de y) (de y).t=y:=by cases y<;>rfl
theorem mM{y:Expr}{t:Nat}(h:Nat.beq (de y).t t):y=My y (de y) t:=by rw[<-aP h,L3]
def k1(y:Expr):Expr:=(de y).e1
def k2(y:Expr):Expr:=(de y).e2
def kL(y:Expr):List Expr:=(de y).l
def kQ(y:Expr):Pos:=(de y).p
def kG(y:Expr):Comprehension:=(de y).gs.headD ⟨default,default,[],0⟩
abbrev ic(l:List Expr):Expr:=l.headD default
abbrev J4(l:List Stmt):Stmt:=l.headD default
def oE(o:Option Expr):Expr:=o.getD default
structure M2 where
 t:Nat:=0
 p:Pos:=default
 l:List Expr:=[]
 e1:Expr:=default
 e2:Expr:=default
 b:List Stmt:=[]
 e:List Stmt:=[]
 o:Option Expr:=none
 op:Operator:=.Add
 o2:Option Expr:=none
 hs:List ExceptHandler:=[]
 f:List Stmt:=[]
def gf:Stmt->M2
 | .Assign l v p=>{t:=1,p,l,e2:=v}
 | .For e1 e2 b e p=>{t:=2,p,e1,e2,b,e}
 | .If e1 b e p=>{t:=3,p,e1,b,e}
 | .Return o p=>{t:=4,p,o}
 | .Expr e1 p=>{t:=5,p,e1}
 | .AugAssign e1 op e2 p=>{t:=6,p,e1,op,e2}
 | .While e1 b e p=>{t:=7,p,e1,b,e}
 | .Break p=>{t:=8,p}
 | .Continue p=>{t:=9,p}
 | .Pass p=>{t:=10,p}
 | .Raise o o2 p=>{t:=11,p,o,o2}
 | .Try b hs e f p=>{t:=12,p,b,hs,e,f}
 |_=>{}
def MZ(y:Stmt)(K:M2):Nat->Stmt
 |1=>.Assign K.l K.e2 K.p
 |2=>.For K.e1 K.e2 K.b K.e K.p
 |3=>.If K.e1 K.b K.e K.p
 |4=>.Return K.o K.p
 |5=>.Expr K.e1 K.p
 |6=>.AugAssign K.e1 K.op K.e2 K.p
 |7=>.While K.e1 K.b K.e K.p
 |8=>.Break K.p
 |9=>.Continue K.p
 |10=>.Pass K.p
 |11=>.Raise K.o K.o2 K.p
 |12=>.Try K.b K.hs K.e K.f K.p
 |_=>y
theorem Mk(y:Stmt):MZ y (gf y) (gf y).t=y:=by cases y<;>rfl
theorem atS{y:Stmt}{t:Nat}(h:Nat.beq (gf y).t t):y=MZ y (gf y) t:=by rw[<-aP h,Mk]
def sT(y:Stmt):Expr:=(gf y).e1
def sG(y:Stmt):Expr:=ic (gf y).l
def sO(y:Stmt):Expr:=oE (gf y).o
def sV(y:Stmt):Expr:=(gf y).e2
def sW(y:Stmt):List Stmt:=(gf y).b
def sE(y:Stmt):List Stmt:=(gf y).e
def sQ(y:Stmt):Pos:=(gf y).p
structure Nc where
 t:Option Expr:=none
 w:Option Str:=none
 b:List Stmt:=[]
 p:Pos:=default
def nY:ExceptHandler->Nc
 | .ExceptHandler t w b p=>{t,w,b,p}
theorem Ms(h:ExceptHandler):h= .ExceptHandler (nY h).t (nY h).w (nY h).b (nY h).p:=by cases h;rfl
theorem iq{α:Type}{l:List α}(h:l.isEmpty):l=[]:=List.isEmpty_iff.mp h
theorem pS{α:Type}{l:List α}(d:α)(h:Nat.beq l.length 1):l=[l.headD d]:=by
 match l,aP h with
 |[a],_=>rfl
theorem wb{o:Option Expr}(h:o.isSome):o=some (oE o):=by
 match o,h with
 |some _,_=>rfl
theorem ry{α:Type}[Inhabited α]{l:List α}(h:(!l.isEmpty)=true):l=l.headD default::l.tail:=by
 match l,h with
 |_::_,_=>rfl
theorem mt{b:Bool}(h:(!b)=true):b=false:=by
 match b,h with
 |false,_=>rfl
end
section
set_option backward.match.sparseCases false
section
variable(nm:Nat->Str) (sc:Scope)
def pF(e:Expr):Bool:= !Nat.beq (de e).t 16
def j6:Expr->Bool
 | .Call (.Name x _) [] [] _=>x != "super"
 |_=>true
def kR(e:Expr):Bool:= !Nat.beq (de e).t 12
def z8(e:Expr):Bool:=Nat.beq (de e).t 11
def yG(k:Nat):Str:=match k with
 |0=>"append"
 |1=>"pop"
 |2=>"extend"
 |_=>"reverse"
def sC(n:Nm)(x:Str):Bool:=x==nm n&&sc.names.lookup x==some .local&&x != "__debug__"
def HZ(n:Nm)(x:Str):Bool:=x==nm n&&sc.names.lookup x==some .globalImplicit&&x != "__debug__"
def yW(x:Str)(e:Expr):Bool:=Nat.beq (de e).t 1&&(de e).ks.isEmpty&&Nat.beq (de (k1 e)).t 2&&(de (k1 e)).x==x&&j6 (k1 (k1 e))&&((kQ (k1 e)).endLine==(kQ e).line)&&decide ((kL e).length<30)
mutual
noncomputable def dO:ME->Expr->Bool
 | .oth,e=>pF e
 | .cst c,e=>Nat.beq (de e).t 10&&decide ((de e).k=c)
 | .loc n,e=>Nat.beq (de e).t 11&&sC nm sc n (de e).x
 | .glb n,e=>Nat.beq (de e).t 11&&HZ nm sc n (de e).x
 | .tup es,e=>Nat.beq (de e).t 8&&fX es (kL e)
 | .lst es,e=>Nat.beq (de e).t 9&&fX es (kL e)
 | .dct,e=>Nat.beq (de e).t 15&&(de e).dk.isEmpty&&(kL e).isEmpty
 | .bin op l r,e=>Nat.beq (de e).t 4&&decide ((de e).o=op)&&dO l (k1 e)&&dO r (k2 e)
 | .not x,e=>Nat.beq (de e).t 13&&decide ((de e).uo= .Not)&&dO x (k1 e)
 | .bop a es,e=>Nat.beq (de e).t 7&&decide ((de e).bo=if a=true then .And else .Or)&&fX es (kL e)
 | .cmp op l r,e=>Nat.beq (de e).t 5&&decide ((de e).os=[op])&&Nat.beq (kL e).length 1&&(!behindInMarks op (ic (kL e)))&&dO l (k1 e)&&dO r (ic (kL e))
 | .ite t a b,e=>Nat.beq (de e).t 14&&dO t (k1 e)&&dO a (k2 e)&&dO b (de e).e3
 | .attr o n,e=>Nat.beq (de e).t 2&&(de e).x==nm n&&j6 (k1 e)&&dO o (k1 e)
 | .item o i,e=>Nat.beq (de e).t 3&&kR (k2 e)&&dO o (k1 e)&&dO i (k2 e)
 | .slice o lo hi,e=>Nat.beq (de e).t 3&&Nat.beq (de (k2 e)).t 12&&(de (k2 e)).c.isNone&&dO o (k1 e)&&vI lo (de (k2 e)).a&&vI hi (de (k2 e)).b
 | .call f as,e=>Nat.beq (de e).t 1&&(de e).ks.isEmpty&&z8 (k1 e)&&dO f (k1 e)&&fX as (kL e)
 | .meth o n as,e=>yW (nm n) e&&dO o (k1 (k1 e))&&fX as (kL e)
 | .lmeth k o as,e=>yW (yG k) e&&dO o (k1 (k1 e))&&fX as (kL e)
noncomputable def fX:List ME->List Expr->Bool
 |[],e=>e.isEmpty
 |m::ms,e=> !e.isEmpty&&dO m (ic e)&&fX ms e.tail
noncomputable def vI:Option ME->Option Expr->Bool
 |none,e=>e.isNone
 |some m,e=>e.isSome&&dO m (oE e)
end
theorem gP:∀(m:ME) (e:Expr),dO nm sc m e=true->pF e=true:=by
 intro m e h;cases e<;>first | rfl | (cases m<;>cases h)
section
variable{e:Expr} {n:Nm} {x:Str} {es as:List ME} {o:ME}
theorem re{c:Const}(h:dO nm sc (.cst c) e):∃k p,e= .Constant c k p:=
 have a:=cW h
 ⟨_,_,(mM a.1).trans (az (Expr.Constant · (de e).n (kQ e)) (aS a.2))⟩
theorem tv(h:sC nm sc n x):x=nm n/\sc.names.lookup (nm n)=some .local/\(nm n==("__debug__":Str))=false:=by
 have a:=cW h;have b:=cW a.1;have e:=am.mp b.1;subst e;exact⟨rfl,am.mp b.2,mt a.2⟩
theorem C1(h:HZ nm sc n x):x=nm n/\sc.names.lookup (nm n)=some .globalImplicit/\(nm n==("__debug__":Str))=false:=by
 have a:=cW h;have b:=cW a.1;have e:=am.mp b.1;subst e;exact⟨rfl,am.mp b.2,mt a.2⟩
theorem uL(h:Nat.beq (de e).t 11)(hx:(de e).x=x):e= .Name x (kQ e):=(mM h).trans (az (Expr.Name · (kQ e)) hx)
theorem u3(h:dO nm sc (.loc n) e):∃p,e= .Name (nm n) p/\sc.names.lookup (nm n)=some .local/\(nm n==("__debug__":Str))=false:=
 have a:=cW h;have b:=tv nm sc a.2
 ⟨_,uL a.1 b.1,b.2⟩
theorem uR(h:dO nm sc (.glb n) e):∃p,e= .Name (nm n) p/\sc.names.lookup (nm n)=some .globalImplicit/\(nm n==("__debug__":Str))=false:=
 have a:=cW h;have b:=C1 nm sc a.2
 ⟨_,uL a.1 b.1,b.2⟩
theorem HA(h:dO nm sc (.tup es) e):∃es' k p,e= .Tuple es' k p/\fX nm sc es es'=true:=
 have a:=cW h
 ⟨_,_,_,mM a.1,a.2⟩
theorem G9(h:dO nm sc (.lst es) e):∃es' p,e= .List es' p/\fX nm sc es es'=true:=
 have a:=cW h
 ⟨_,_,mM a.1,a.2⟩
theorem Hb(h:dO nm sc .dct e):∃p,e= .Dict [] [] p:=by
 have a:=cW h;have b:=cW a.1;refine⟨kQ e,(mM b.1).trans ?_⟩;show Expr.Dict (de e).dk (kL e) (kQ e)=_;rw[iq b.2,iq a.2]
theorem F8{op:Operator}{l r:ME}(h:dO nm sc (.bin op l r) e):∃l' r' p,e= .BinOp l' op r' p/\dO nm sc l l'=true/\dO nm sc r r'=true:=
 have a:=cW h;have b:=cW a.1;have c:=cW b.1
 ⟨_,_,_,(mM c.1).trans (az (Expr.BinOp (k1 e) · (k2 e) (kQ e)) (aS c.2)),b.2,a.2⟩
theorem Au{x:ME}(h:dO nm sc (.not x) e):∃x' p,e= .UnaryOp .Not x' p/\dO nm sc x x'=true:=
 have a:=cW h;have b:=cW a.1
 ⟨_,_,(mM b.1).trans (az (Expr.UnaryOp · (k1 e) (kQ e)) (aS b.2)),a.2⟩
theorem zY{a:Bool}(h:dO nm sc (.bop a es) e):∃es' p,e= .BoolOp (if a=true then .And else .Or) es' p/\fX nm sc es es'=true:=
 have a:=cW h;have b:=cW a.1
 ⟨_,_,(mM b.1).trans (az (Expr.BoolOp · (kL e) (kQ e)) (aS b.2)),a.2⟩
theorem Ac{op:CmpOp}{l r:ME}(h:dO nm sc (.cmp op l r) e):∃l' r' p,e= .Compare l' [op] [r'] p/\behindInMarks op r'=false/\dO nm sc l l'=true/\dO nm sc r r'=true:=
 have a:=cW h;have b:=cW a.1;have c:=cW b.1;have d:=cW c.1;have f:=cW d.1
 ⟨_,_,_,(mM f.1).trans ((az (Expr.Compare (k1 e) · (kL e) (kQ e)) (aS f.2)).trans (az (Expr.Compare (k1 e) [op] · (kQ e)) (pS default d.2))),mt c.2,b.2,a.2⟩
theorem rg{t a b:ME}(h:dO nm sc (.ite t a b) e):∃t' a' b' p,e= .IfExp t' a' b' p/\dO nm sc t t'=true/\dO nm sc a a'=true/\dO nm sc b b'=true:=
 have a:=cW h;have b:=cW a.1;have c:=cW b.1
 ⟨_,_,_,_,mM c.1,c.2,b.2,a.2⟩
theorem D7(h:dO nm sc (.attr o n) e):∃o' p,e= .Attribute o' (nm n) p/\j6 o'=true/\dO nm sc o o'=true:=
 have a:=cW h;have b:=cW a.1;have c:=cW b.1
 ⟨_,_,(mM c.1).trans (az (Expr.Attribute (k1 e) · (kQ e)) (am.mp c.2)),b.2,a.2⟩
theorem EK{i:ME}(h:dO nm sc (.item o i) e):∃o' i' p,e= .Subscript o' i' p/\kR i'=true/\dO nm sc o o'=true/\dO nm sc i i'=true:=
 have a:=cW h;have b:=cW a.1;have c:=cW b.1
 ⟨_,_,_,mM c.1,c.2,b.2,a.2⟩
theorem Bg{lo hi:Option ME}(h:dO nm sc (.slice o lo hi) e):∃o' lo' hi' p q,e= .Subscript o' (.Slice lo' hi' none p) q/\dO nm sc o o'=true/\vI nm sc lo lo'=true/\vI nm sc hi hi'=true:=
 have a:=cW h;have b:=cW a.1;have c:=cW b.1;have d:=cW c.1;have f:=cW d.1
 ⟨_,_,_,_,_,(mM f.1).trans (az (Expr.Subscript (k1 e) · (kQ e)) ((mM f.2).trans (az (Expr.Slice (de (k2 e)).a (de (k2 e)).b · (kQ (k2 e))) (Option.isNone_iff_eq_none.mp d.2)))),c.2,b.2,a.2⟩
theorem mH{f:ME}(h:dO nm sc (.call f as) e):∃f' as' p,e= .Call f' as' [] p/\z8 f'=true/\dO nm sc f f'=true/\fX nm sc as as'=true:=
 have a:=cW h;have b:=cW a.1;have c:=cW b.1;have d:=cW c.1
 ⟨_,_,_,(mM d.1).trans (az (Expr.Call (k1 e) (kL e) · (kQ e)) (iq d.2)),c.2,b.2,a.2⟩
theorem uw(h:yW x e):e= .Call (.Attribute (k1 (k1 e)) x (kQ (k1 e))) (kL e) [] (kQ e)/\j6 (k1 (k1 e))=true/\((kQ (k1 e)).endLine==(kQ e).line)=true/\(kL e).length<30:=
 have a:=cW h;have b:=cW a.1;have c:=cW b.1;have d:=cW c.1;have f:=cW d.1;have g:=cW f.1
 ⟨(mM g.1).trans ((az (Expr.Call (k1 e) (kL e) · (kQ e)) (iq g.2)).trans (az (Expr.Call · (kL e) [] (kQ e)) ((mM f.2).trans (az (Expr.Attribute (k1 (k1 e)) · (kQ (k1 e))) (am.mp d.2))))),c.2,b.2,aS a.2⟩
theorem wT(h:dO nm sc (.meth o n as) e):
  ∃o' ap as' p,e= .Call (.Attribute o' (nm n) ap) as' [] p/\j6 o'=true/\(ap.endLine==p.line)=true/\as'.length<30/\dO nm sc o o'=true/\fX nm sc as as'=true:=
 have a:=cW h;have b:=cW a.1;have m:=uw b.1
 ⟨_,_,_,_,m.1,m.2.1,m.2.2.1,m.2.2.2,b.2,a.2⟩
theorem Br{k:Nat}(h:dO nm sc (.lmeth k o as) e):
  ∃o' ap as' p,e= .Call (.Attribute o' (yG k) ap) as' [] p/\j6 o'=true/\(ap.endLine==p.line)=true/\as'.length<30/\dO nm sc o o'=true/\fX nm sc as as'=true:=
 have a:=cW h;have b:=cW a.1;have m:=uw b.1
 ⟨_,_,_,_,m.1,m.2.1,m.2.2.1,m.2.2.2,b.2,a.2⟩
theorem jl{es:List Expr}(h:fX nm sc [] es):es=[]:=iq h
theorem fK{m:ME}{ms:List ME}{es:List Expr}(h:fX nm sc (m::ms) es):∃x xs,es=x::xs/\dO nm sc m x=true/\fX nm sc ms xs=true:=
 have a:=cW h;have b:=cW a.1
 ⟨_,_,ry b.1,b.2,a.2⟩
theorem uu{e:Option Expr}(h:vI nm sc none e):e=none:=Option.isNone_iff_eq_none.mp h
theorem pV{m:ME}{e:Option Expr}(h:vI nm sc (some m) e):∃x,e=some x/\dO nm sc m x=true:=
 have a:=cW h
 ⟨_,wb a.1,a.2⟩
end
end
theorem ez{env:Env}{e:Expr}{u':List Expr}(h:pF e):starEach (e::u') env=(false,eval e env)::starEach u' env:=by
 cases e<;>first | rfl | cases h
theorem hO{env:Env}{o:Expr}{x:Str}{m:Sem Value}(h:j6 o):attributeBase o x env m=m:=by
 cases o with
 |Call f as ks p=>
  cases f with
  |Name id p'=>
   cases as with
   |cons _ _=>rfl
   |nil=>
    cases ks with
    |cons _ _=>rfl
    |nil=>
     have h:(id != "super")=true:=h;refine if_pos ?_;rw[h];rfl
  |_=>rfl
 |_=>rfl
end
structure Cx where
 prog:Program
 w:World
 K:Frag
 h₀:Heap
 mg:Str->Option Value
 mb:Str->Option Value
 nm:Nat->Str
 P:tV
abbrev Cx.M(c:Cx):Model:=model c.prog c.w
abbrev Cx.R(c:Cx)(ρ:List Addr)(σ:List O)(h:Heap):Prop:=kB c.nm ⟨c.prog,c.w⟩ c.h₀ ρ σ h
abbrev Cx.Rs(c:Cx)(ρ:List Addr)(σ:List O)(s:Shared)(ρ':List Addr)(σ':List O)(s':Shared):Prop:=eR c.nm ⟨c.prog,c.w⟩ c.h₀ ρ σ s ρ' σ' s'
def pq(K:Frag)(C:Addr):Bool:=
 findIn K (.ref C) "__getattribute__"==some (some (.builtin "object.__getattribute__"))&&findIn K (.ref C) "__getattr__"==some none&&hasDictIn K C&&
 findIn K (.ref C) "__setattr__"==some (some (.builtin "object.__setattr__"))&&plainOver K C&&makesIn K C
def CJ(K:Frag)(C:Addr)(x:Str):Bool:=findIn K (.ref C) x==some none&&takerIn K C x==some none
def rW(K:Frag)(C:Addr)(x:Str)(f:Addr):Bool:=findIn K (.ref C) x==some (some (.ref f))&&typeIn K (.ref f)==some (.type "function")
structure Cx.Ok(c:Cx):Prop where
 X:c.K.In c.h₀
 g:c.h₀.Ns mainGlobals c.mg
 b:c.h₀.Ns builtinsNs c.mb
 lim:c.h₀.NoLimit
 inj:∀i j,c.nm i=c.nm j->i=j
 glob:∀n v,c.P.glob n=some v->∃x,(c.mg (c.nm n)=some x\/(c.mg (c.nm n)=none/\c.mb (c.nm n)=some x))/\dH [] c.h₀ v x
 cls:∀C f,c.P.cls C=some f->pq c.K C=true/\rW c.K C "__init__" f=true/\keepIn c.K (.ref C)=true
 meth:∀C n f,c.P.meth C n=some f->pq c.K C=true/\rW c.K C (c.nm n) f=true
 fld:∀C n,c.P.fld C n=true->pq c.K C=true/\CJ c.K C (c.nm n)=true
def All(l:List Prop):Prop:=∀p∈l,p
theorem All.tail{p:Prop}{l:List Prop}(h:All (p::l)):All l:=λq m=>h q (.tail _ m)
theorem All.head{p:Prop}{l:List Prop}(h:All (p::l)):p:=h p (.head _)
structure ee(A:Around)(n:Nat):Prop where
 depth:A.depth+n<recursionLimit
 units:A.units+8*n<cLine
 handled:A.handled=none
theorem ee.less{A:Around}{n m:Nat}(r:ee A n)(h:m<=n):ee A m:=⟨by have:=r.depth;omega,by have:=r.units;omega,r.handled⟩
structure dE(env:Env)(fi:Nat)(ρ:List Addr):Prop where
 kind:env.scope.kind= .function
 loc:nth ρ fi=some env.locals
 glob:env.globals=mainGlobals
 blt:env.builtins=builtinsNs
theorem dE.grow{env:Env}{fi:Nat}{ρ ρ':List Addr}(x:dE env fi ρ)(g:eB ρ ρ'):dE env fi ρ':=⟨x.kind,g _ _ x.loc,x.glob,x.blt⟩
theorem dE.notCls{env:Env}{fi:Nat}{ρ:List Addr}(x:dE env fi ρ):(env.scope.kind== .class||(env.scope.kind== .module&&env.locals != env.globals))=false:=by rw[x.kind];rfl
section
variable(c:Cx)
def e9(ρ:List Addr):Prop:=eB c.P.ads ρ
def PE(n:Nat)(m:ME)(fi:Nat)(os:List O)(v:V)(H':List O):Prop:=
 ∀(A:Around) (env:Env) (x:Expr) (s:Shared) (ρ:List Addr) (Q E:Value->Shared->Prop),ee A (n+c.P.room)->dE env fi ρ->dO c.nm env.scope m x->c.R ρ os s.heap->e9 c ρ->
  (∀ρ' s' y,c.Rs ρ os s ρ' H' s'->dH ρ' s'.heap v y->Q y s')->wpAny c.M A (eval x env) Q E s
def SE(n:Nat)(e:ME->Nat->St->Option (V×St)):Prop:=∀m fi st v C',e m fi st=some (v,C')->All C'.cs->All st.cs/\PE c n m fi st.os v C'.os
def PT(n:Nat)(m:ME)(fi:Nat)(os:List O)(b:Bool)(H':List O):Prop:=
 ∀(A:Around) (env:Env) (x:Expr) (s:Shared) (ρ:List Addr) (Q:Bool->Shared->Prop) (E:Value->Shared->Prop),ee A (n+c.P.room)->dE env fi ρ->dO c.nm env.scope m x->c.R ρ os s.heap->e9 c ρ->
  (∀ρ' s',c.Rs ρ os s ρ' H' s'->Q b s')->wpAny c.M A (PySem.isTrue x env (eval x env)) Q E s
def ST(n:Nat)(t:ME->Nat->St->Option (Bool×St)):Prop:=∀m fi st b C',t m fi st=some (b,C')->All C'.cs->All st.cs/\PT c n m fi st.os b C'.os
def PC(n:Nat)(a:Nat)(vs:List V)(os:List O)(v:V)(H':List O):Prop:=
 ∀(A:Around) (xs:List Value) (s:Shared) (ρ:List Addr) (Q E:Value->Shared->Prop),ee A (n+c.P.room)->c.R ρ os s.heap->e9 c ρ->dy ρ s.heap vs xs->
  (∀ρ' s' y,c.Rs ρ os s ρ' H' s'->dH ρ' s'.heap v y->Q y s')->codeAny c.M A (.call (.ref a) ⟨xs,[]⟩) (λr s'=>match r with | .ok (.ret v)=>Q v s' | .ok _=>False | .error e=>E e s') s
def SC(n:Nat)(f:Nat->List V->St->Option (V×St)):Prop:=∀a vs st v C',f a vs st=some (v,C')->All C'.cs->All st.cs/\keepIn c.K (.ref a)=true/\PC c n a vs st.os v C'.os
def PL(n:Nat)(ms:List ME)(fi:Nat)(os:List O)(vs:List V)(H':List O):Prop:=
 ∀(A:Around) (env:Env) (pos:Pos) (es:List Expr) (s:Shared) (ρ:List Addr) (Q:List Value->Shared->Prop) (E:Value->Shared->Prop),ee A (n+c.P.room)->dE env fi ρ->fX c.nm env.scope ms es->c.R ρ os s.heap->e9 c ρ->
  (∀ρ' s' ys,c.Rs ρ os s ρ' H' s'->dy ρ' s'.heap vs ys->Q ys s')->wpAny c.M A (spliced (backTo pos (starEach es env))) Q E s
end
def K0{α:Type}(st:St)(T:α->List O->Prop)(v:α)(C':St):Prop:=All C'.cs->All st.cs/\T v C'.os
section
variable{α:Type} {st:St} {c:Cx} {n:Nat}
theorem og{v:α}{W:α->List O->Prop}(k:W v st.os):oP (some (v,st)) (K0 st W):=λhc=>⟨hc,k⟩
theorem CM{v:α}{W:α->List O->Prop}{p:Prop}(k:p->W v st.os):oP (some (v,pO st p)) (K0 st W):=λhc=>⟨hc.tail,k hc.head⟩
theorem K0.imp{o:Option (α×St)}{T W:α->List O->Prop}(h:oP o (K0 st T))(k:∀v os,T v os->W v os):oP o (K0 st W):=h.mono λI I g hc=>let z:=g hc;⟨z.1,k _ _ z.2⟩
theorem sq{β:Type}{o:Option (α×St)}{f:α->St->Option (β×St)}{T:α->List O->Prop}{W:β->List O->Prop}(h:oP o (K0 st T))(k:∀a st1,oP (f a st1) (K0 st1 λv os=>T a st1.os->W v os)):oP (ob o f) (K0 st W):=
 LI h λa st1 h1=>(k a st1).mono λI I h2 hc=>let z:=h2 hc;let w:=h1 z.1;⟨w.1,z.2 w.2⟩
theorem SE.o{e:ME->Nat->St->Option (V×St)}(H:SE c n e)(m:ME)(fi:Nat)(st:St):oP (e m fi st) (K0 st (PE c n m fi st.os)):=oP.into λv C' h=>H m fi st v C' h
theorem ST.o{e:ME->Nat->St->Option (Bool×St)}(H:ST c n e)(m:ME)(fi:Nat)(st:St):oP (e m fi st) (K0 st (PT c n m fi st.os)):=oP.into λv C' h=>H m fi st v C' h
theorem SE.in{e:ME->Nat->St->Option (V×St)}(H:∀m fi st,oP (e m fi st) (K0 st (PE c n m fi st.os))):SE c n e:=λm fi st I I h=>(H m fi st).out h
theorem ST.in{e:ME->Nat->St->Option (Bool×St)}(H:∀m fi st,oP (e m fi st) (K0 st (PT c n m fi st.os))):ST c n e:=λm fi st I I h=>(H m fi st).out h
theorem j7{c:Cx}{n fi:Nat}{e:ME->Nat->St->Option (V×St)}(H:SE c n e):∀(ms:List ME) (st:St),oP (Ho e fi ms st) (K0 st (PL c n ms fi st.os))
 |[],st=>og λA env pos es s ρ Q E rm en ck R ad q=>by
  obtain rfl:=jl _ _ ck;exact aN (q ρ s [] (.refl R) rfl)
 |m::ms,st=>sq (H.o m fi st) λv st1=>sq (j7 H ms st1) λvs st2=>og λk2 k1 A env pos es s ρ Q E rm en ck R ad q=>by
  obtain⟨x,xs,rfl,ck1,ck2⟩:=fK _ _ ck;refine aF (k1 A env x s ρ _ _ rm en ck1 R ad λρ1 s1 y r1 v1=>?_) (ez (gP _ _ _ _ ck1));exact k2 A env pos xs s1 ρ1 _ _ rm (en.grow r1.grow) ck2 r1.rel (eB.trans ad r1.grow) λρ2 s2 ys r2 v2=>q ρ2 s2 (y::ys) (r1.trans r2) (.cons (r2.v r1.rel v1) v2)
end
theorem vf{v:Value}(h:wB v):handedIn v:=by
 cases v<;>first | rfl | cases h
def xH(ads:List Addr)(v:V)(i:Nat):Prop:=∀(ρ:List Addr) (hp:Heap) (x:Value),eB ads ρ->dH ρ hp v x->∃a,nth ρ i=some a/\x= .ref a
section
variable{st:St} {r y z:Bool} {c:Cx} {n:Nat} {op:CmpOp} {s:Str} {i j:Int}
theorem CX{ads:List Addr}{v:V}:oP (lQ ads v st) λi C'=>C'.os=st.os/\(All C'.cs->All st.cs/\xH ads v i):=by
 cases v with
 |obj i=>exact⟨rfl,λhc=>⟨hc,λρ hp x g ⟨a,e,e2⟩=>⟨a,(dP ρ i).trans e,e2⟩⟩⟩
 |val x=>
  obtain⟨os,ch,cs⟩:=st;cases ch with
  |nil=>exact N4
  |cons h l=>
   cases h with
   |ix i=>
    exact⟨rfl,λhc=>⟨hc.tail,λρ hp y g r=>by
     obtain⟨a,e,e2⟩:=aq.mp hc.head;exact⟨a,g _ _ e,r.1.trans e2.symm⟩⟩⟩
   |_=>exact N4
 |_=>exact N4
theorem vp(a b:Str):Cb a b=(a==b):=by
 unfold Cb;cases h:(a==b) with
 |true=>rw[am.mp h];simp
 |false=>
  rw[bK] at h ⊢;intro e;apply h;cases a;cases b
  simpa using e
theorem w8{x:Value}(h:wB x):plainIs x .none:=by
 cases x<;>first | rfl | cases h
theorem rP{y:Bool}{s:Str}:∀{vs:List V} {b:Bool} {l:List Str},n8 y s vs=some (b,l)->∀{ρ:List Addr} {hp:Heap} {xs:List Value},dy ρ hp vs xs->StrsAre xs l
 |[],_,_,h,_,_,_,r=>by cases h;cases r;exact .nil
 |v::vs,b,l,h,ρ,hp,xs,r=>by
  cases v with
  |none=>injection h
  |bool=>injection h
  |int=>injection h
  |tup=>injection h
  |obj=>injection h
  |val=>injection h
  |bi=>injection h
  |str z tt=>
  obtain⟨x,xs,rfl,⟨u,rfl⟩,r⟩:=r;have h:(match n8 y s vs with
   |some (b,l)=>match y||z with
    |true=>some (true,tt::l)
    |false=>some (b,tt::l)
   |none=>none)=some (b,l):=h
  cases e:n8 y s vs with
  |none=>rw[e] at h;cases h
  |some q=>
   have h2:q.2=l.tail/\l=tt::q.2:=by
    rw[e] at h;have h:(match y||z with | true=>some (true,tt::q.2) | false=>some (q.1,tt::q.2))=some (b,l):=h;revert h;cases y||z<;>intro h<;>cases h<;>exact⟨rfl,rfl⟩
   rw[h2.2];exact .cons _ _ (rP (b:=q.1) e r)
theorem qd(s:Str):∀l:List Str,gG s l=l.any (·==s)
 |[]=>rfl
 |t::r=>by
  show(match Cb s t with | true=>true | false=>gG s r)=_;rw[vp,List.any_cons,qd s r];cases h:(s==t) with
  |true=>rw[show(t==s)=true from by rw[am] at h ⊢;exact h.symm];rfl
  |false=>rw[show(t==s)=false from by rw[bK] at h ⊢;exact λe=>h e.symm];rfl
def Mb(sh:Shared)(x:Value)(l:List Str):Prop:=∃a z',x= .ref a/\IsTup sh.heap a (List.toArray z')/\StrsAre z' l
def QC(c:Cx)(n:Nat)(op:CmpOp)(a b:V)(os:List O)(r:Bool):Prop:=
 ∀(A:Around) (s:Shared) (ρ:List Addr) (x y:Value) (Q E:Value->Shared->Prop),ee A n->c.R ρ os s.heap->e9 c ρ->dH ρ s.heap a x->dH ρ s.heap b y->Q (.bool r) s->wpAny c.M A (compareOp op x y) Q E s
def KC{α:Type}(st:St)(T:α->Prop)(r:α)(C':St):Prop:=C'.os=st.os/\(All C'.cs->All st.cs/\T r)
theorem KC.get{α:Type}{C':St}{T:α->Prop}{r:α}(k:KC st T r C')(hc:All C'.cs):All st.cs/\C'.os=st.os/\T r:=⟨(k.2 hc).1,k.1,(k.2 hc).2⟩
theorem J3{T p:Bool->Prop}(k:∀r,p r->T r):oP (choose st p) (KC st T):=by
 obtain⟨os,ch,cs⟩:=st;cases ch with
 |nil=>exact N4
 |cons h l=>
  cases h with
  |b r=>exact⟨rfl,λhc=>⟨hc.tail,k r hc.head⟩⟩
  |_=>exact N4
theorem LH{α:Type}{T:α->Prop}{ads:List Addr}{u:V}{f:Nat->St->Option (α×St)}(k:∀i ch cs,oP (f i ⟨st.os,ch,cs⟩) (KC ⟨st.os,ch,cs⟩ λv=>xH ads u i->T v)):oP (ob (lQ ads u st) f) (KC st T):=
 LI CX λi st1 h=>by
  obtain⟨os,ch,cs⟩:=st1;obtain⟨e,h2⟩:=h;have e:os=st.os:=e;subst e;exact(k i ch cs).mono λI I g=>⟨g.1,λhc=>let z:=g.2 hc;let w:=h2 z.1;⟨w.1,z.2 w.2⟩⟩
theorem vJ{α:Type}{T:α->Prop}{r:α}(k:T r):oP (some (r,st)) (KC st T):=⟨rfl,λhc=>⟨hc,k⟩⟩
theorem LL{os:List O}{t:Str}(h:∀(A:Around) (sh:Shared) (u v:Tok) (Q E:Value->Shared->Prop),Q (.bool r) sh->wpAny c.M A (compareOp op (.str s u) (.str t v)) Q E sh):QC c n op (.str y s) (.str z t) os r:=λA sh ρ x w Q E rm R ad va vb q=>by
 obtain⟨u,rfl⟩:=va;obtain⟨v,rfl⟩:=vb;exact h A sh u v Q E q
theorem Nl{os:List O}(h:∀(A:Around) (sh:Shared) (u v:Tok) (Q E:Value->Shared->Prop),Q (.bool r) sh->wpAny c.M A (compareOp op (.int i u) (.int j v)) Q E sh):QC c n op (.int y i) (.int z j) os r:=λA sh ρ x w Q E rm R ad va vb q=>by
 obtain⟨u,rfl⟩:=va;obtain⟨v,rfl⟩:=vb;exact h A sh u v Q E q
theorem MU{v:V}{f:Bool->Bool}{p:Value->Bool->Prop}(h:∀(A:Around) (sh:Shared) (x:Value) (Q E:Value->Shared->Prop),plainIs x .none=true->Q (.bool (f (x==Value.none))) sh->wpAny c.M A (compareOp op x .none) Q E sh)(hp:∀x r,p x r->f (x==Value.none)=r):
  oP (Jb f p v st) (KC st (QC c n op v .none st.os)):=by
 have k:∀r,(∀ρ hp x,dH ρ hp v x->plainIs x .none=true/\(x==Value.none)=r)->QC c n op v .none st.os (f r):=λr e A sh ρ x w Q E rm R ad va vb q=>by
  obtain rfl:=vb;have p:=e _ _ _ va;exact h A sh x Q E p.1 (by rw[p.2];exact q)
 cases v with
 |val x=>
  exact J3 λr k3 A sh ρ x' w Q E rm R ad va vb q=>by
   obtain rfl:=vb;obtain⟨rfl,ok⟩:=va;exact h A sh _ Q E (w8 ok) (by rw[hp _ r k3];exact q)
 |bi _=>exact N4
 |none=>exact vJ (k true λI I I r=>by cases r;exact⟨rfl,rfl⟩)
 |bool _=>exact vJ (k false λI I I r=>by cases r;exact⟨rfl,rfl⟩)
 |int _ _=>exact vJ (k false λI I I ⟨_,r⟩=>by cases r;exact⟨rfl,rfl⟩)
 |str _ _=>exact vJ (k false λI I I ⟨_,r⟩=>by cases r;exact⟨rfl,rfl⟩)
 |tup _=>exact vJ (k false λI I I ⟨_,_,r,_⟩=>by cases r;exact⟨rfl,rfl⟩)
 |obj _=>exact vJ (k false λI I I ⟨_,_,r⟩=>by cases r;exact⟨rfl,rfl⟩)
theorem MO{vs:List V}{f:Bool->Bool}(h:∀(A:Around) (sh:Shared) (u:Tok) (x:Value) (l:List Str) (Q E:Value->Shared->Prop),Mb sh x l->Q (.bool (f (gG s l))) sh->wpAny c.M A (compareOp op (.str s u) x) Q E sh):
  oP (on (n8 y s vs) λp=>oi p.1 (choose st λc=>f (gG s p.2)=c) (some (f (gG s p.2),st))) (KC st (QC c n op (.str y s) (.tup vs) st.os)):=by
 refine qw λp e=>?_;have k:∀r,f (gG s p.2)=r->QC c n op (.str y s) (.tup vs) st.os r:=λr e2 A sh ρ x w Q E rm R ad va vb q=>by
  obtain⟨u,rfl⟩:=va;obtain⟨a,z',rfl,it,rs⟩:=vb;exact h A sh u _ p.2 Q E ⟨a,z',rfl,it,rP (b:=p.1) e rs⟩ (by rw[e2];exact q)
 exact yF (λI=>J3 k) λI=>vJ (k _ rfl)
theorem J1{p:Prop}[Decidable p]{b:Bool}(k:b=true↔p):decide p=b:=by
 cases b with
 |true=>exact av (k.mp rfl)
 |false=>exact ag λz=>Bool.noConfusion (k.mpr z)
theorem MF(k:∀r,lG op i j r\/tc op i j=some r->QC c n op (.int y i) (.int z j) st.os r):oP (oi (y||z) (choose st λc=>lG op i j c) (on (tc op i j) λc=>some (c,st))) (KC st (QC c n op (.int y i) (.int z j) st.os)):=
 yF (λI=>J3 λr e=>k r (.inl e)) λI=>qw λr e=>vJ (k r (.inr e))
theorem KP{t:Str}{p:Bool->Prop}{x:Bool}(k:∀r,p r\/x=r->QC c n op (.str y s) (.str z t) st.os r):oP (oi (y||z) (choose st p) (some (x,st))) (KC st (QC c n op (.str y s) (.str z t) st.os)):=
 yF (λI=>J3 λr e=>k r (.inl e)) λI=>vJ (k _ (.inr rfl))
theorem cZ(h:lG op i j r\/tc op i j=some r):lG op i j r:=h.elim id λh=>by
 cases op<;>first | exact q0 (show none=some _ from h) | skip
 .exact(J1 (Z.eqB_iff _ _)).trans (ac h)
 .rw[<-ac h];show decide (¬_)=_;rw[decide_not,J1 (Z.eqB_iff _ _)]
 .exact(J1 (Z.ltB_iff _ _)).trans (ac h)
 .exact(J1 (Z.leB_iff _ _)).trans (ac h)
 .exact(J1 (Z.ltB_iff _ _)).trans (ac h)
 .exact(J1 (Z.leB_iff _ _)).trans (ac h)
theorem J0(k:∀r,lG op i j r->∀(A:Around) (sh:Shared) (u v:Tok) (Q E:Value->Shared->Prop),Q (.bool r) sh->wpAny c.M A (compareOp op (.int i u) (.int j v)) Q E sh):
  oP (oi (y||z) (choose st λc=>lG op i j c) (on (tc op i j) λc=>some (c,st))) (KC st (QC c n op (.int y i) (.int z j) st.os)):=MF λr h=>Nl (k r (cZ h))
theorem Mi{b:V}:oP (H6 c.P.ads b st) (KC st (QC c n .In (.str y s) b st.os)):=by
 refine LH λi ch cs=>qw λo e2=>?_;cases o with
 |list y0 l=>cases l with
  |nil=>
   exact vJ λk3 A s' ρ x y Q E rm R ad va vb q=>by
    obtain⟨t,rfl⟩:=va;obtain⟨a,ha,rfl⟩:=k3 ρ s'.heap y ad vb;obtain⟨z',m,ho,z⟩:=R.at ha e2;cases z;exact SeqInW.in_listW (λI=>false) (λy hy=>by simp at hy) ⟨_,ho,rfl,m,rfl⟩ (by simpa using q)
  |cons _ _=>exact N4
 |_=>exact N4
theorem nV{a b:V}:oP (Ap c.P.ads op a b st) (KC st (QC c n op a b st.os)):=by
 cases op with
 |Is=>cases b with
  |none=>exact MU (f:=λr=>r) (λA sh x Q E p q=>wpAny_is_plain p q) λx r e=>e
  |_=>exact N4
 |IsNot=>cases b with
  |none=>
   exact MU (f:=λr=> !r) (λA sh x Q E p q=>wpAny_isNot_plain p q) λx r e=>by
    have e:decide (x≠Value.none)=r:=e;rw[<-e]
    by_cases z:x=Value.none
    .rw[z];rfl
    .rw[bK.mpr z,av z];rfl
  |_=>exact N4
 |In=>cases a with
  |str y s=>
   cases b with
   |tup vs=>
    exact MO (f:=λr=>r) λA sh u x l Q E ⟨a,z',e,it,sa⟩ q=>by
     subst e;exact SeqAt.in_tupleAt (isStrOf s) it (λy hy=>(eq_isStrOf s u sa y (by simpa using hy)).at _ _) (by rw[<-Array.any_toList,show z'.toArray.toList=z' from rfl,any_isStrOf s sa,<-qd];exact q)
   |str z t=>exact J3 λr k3=>LL λA sh u v Q E q=>SB.contains (by rw[k3];exact q)
   |_=>exact Mi
  |_=>exact N4
 |NotIn=>cases a with
  |str y s=>cases b with
   |tup vs=>
    exact MO (f:=λr=> !r) λA sh u x l Q E ⟨a,z',e,it,sa⟩ q=>by
     subst e;exact SeqAt.notIn_tupleAt (isStrOf s) it (λy hy=>(eq_isStrOf s u sa y (by simpa using hy)).at _ _) (by rw[<-Array.any_toList,show z'.toArray.toList=z' from rfl,any_isStrOf s sa,<-qd];exact q)
   |str z t=>exact J3 λr k3=>LL λA sh u v Q E q=>SB.notContains (by rw[k3];exact q)
   |_=>exact N4
  |_=>exact N4
 |Eq=>cases a with
  |int y i=>cases b with
   |int z j=>exact J0 λr e A sh u v Q E q=>eq_int (by rw[show(i==j)=r from e];exact q)
   |_=>exact N4
  |str y s=>cases b with
   |str z t=>exact KP λr h=>LL λA sh u v Q E q=>eq_str (by rw[show(s==t)=r from h.elim id λh=>(vp s t).symm.trans h];exact q)
   |_=>exact N4
  |tup vs=>cases b with
   |str z t=>
    exact vJ λA s' ρ x y Q E rm R ad va vb q=>by
     obtain⟨a,z',rfl,it,rs⟩:=va;obtain⟨u,rfl⟩:=vb;exact SeqAt.RcAt.tuple_str _ _ it (by have:=rm.units;omega) c.prog c.w E Q q
   |_=>exact N4
  |none=>cases b with
   |str z t=>
    exact vJ λA s' ρ x y Q E rm R ad va vb q=>by
     obtain rfl:=va;obtain⟨u,rfl⟩:=vb;exact PySem.EqNone.eq_none_str q
   |_=>exact N4
  |_=>exact N4
 |NotEq=>cases a with
  |int y i=>cases b with
   |int z j=>
    exact J0 λr e A sh u v Q E q=>ne_int (by
     have e:decide (i≠j)=r:=e;rw[show(i != j)=r from by rw[<-e];by_cases z:i=j<;>simp [z]];exact q)
   |_=>exact N4
  |str y s=>cases b with
   |str z t=>
    exact KP λr h=>LL λA sh u v Q E q=>ne_str (by
     rw[show(s != t)=r from h.elim (λh=>by rw[<-h];by_cases z:s=t<;>simp [z]) λh=>by rw[<-h,vp];rfl];exact q)
   |_=>exact N4
  |tup _=>cases b<;>exact N4
  |none=>cases b<;>exact N4
  |_=>exact N4
 |Lt=>cases a with
  |int y i=>cases b with
   |int z j=>exact J0 λr e A sh u v Q E q=>lt_int (by rw[show decide (i<j)=r from e];exact q)
   |_=>exact N4
  |str _ _=>cases b<;>exact N4
  |tup _=>cases b<;>exact N4
  |none=>cases b<;>exact N4
  |_=>exact N4
 |LtE=>cases a with
  |int y i=>cases b with
   |int z j=>exact J0 λr e A sh u v Q E q=>le_int (by rw[show decide (i<=j)=r from e];exact q)
   |_=>exact N4
  |str _ _=>cases b<;>exact N4
  |tup _=>cases b<;>exact N4
  |none=>cases b<;>exact N4
  |_=>exact N4
 |Gt=>cases a with
  |int y i=>cases b with
   |int z j=>exact J0 λr e A sh u v Q E q=>gt_int (by rw[show decide (i > j)=r from e];exact q)
   |_=>exact N4
  |str _ _=>cases b<;>exact N4
  |tup _=>cases b<;>exact N4
  |none=>cases b<;>exact N4
  |_=>exact N4
 |GtE=>cases a with
  |int y i=>cases b with
   |int z j=>exact J0 λr e A sh u v Q E q=>ge_int (by rw[show decide (i>=j)=r from e];exact q)
   |_=>exact N4
  |str _ _=>cases b<;>exact N4
  |tup _=>cases b<;>exact N4
  |none=>cases b<;>exact N4
  |_=>exact N4
theorem uD{a b:V}{C':St}(h:Ap c.P.ads op a b st=some (r,C'))(hc:All C'.cs):All st.cs/\C'.os=st.os/\QC c n op a b st.os r:=(nV.out h).get hc
end
nonrec theorem G6{prog:Program}{w:World}{A:Around}{E:Value->Shared->Prop}{s:Shared}{t b:Addr}{Q:Value->Shared->Prop}{{vs ws:List Value}}(ht:IsTup s.heap t vs.toArray)(hb:IsTup s.heap b ws.toArray)(hsz:vs.length+ws.length<=sizeLine)(h:∀a h',IsTup h' a (vs++ws).toArray->(∀b o,s.heap.get? b=some o->h'.get? b=some o)->s.heap.objs.size<=h'.objs.size->Q (.ref a) {s with heap:=h'}):
  wpAny (model prog w) A (binaryOp .Add (.ref t) (.ref b)) Q E s:=by
 have ht':=ht;have hb':=hb;obtain⟨⟨cls,dd,data,sl⟩,ho,hc,n,hd⟩:=ht;obtain⟨⟨cls2,dd2,data2,sl2⟩,ho2,hc2,n2,LB⟩:=hb;simp only at hc hd hc2 LB;subst hc hd hc2 LB
 by_cases hv:vs=[]
 .subst hv
  exact concat_meets ⟨_,ho,rfl⟩ ⟨_,ho2,rfl⟩ noFill_tuple_add seq_tuple_add PySem.F.slot_tuple_add PySem.F.entry_tuple_add (PySem.F.args_tuple_add_2 _ _)
   (tuple_addW0 t b [].toArray ws.toArray n n2 dd dd2 sl sl2 (by simp)) ⟨ho,ho2,h b s.heap hb' (λI I e=>e) (ao _)⟩
 .by_cases hw:ws=[]
  .subst hw
   exact concat_meets ⟨_,ho,rfl⟩ ⟨_,ho2,rfl⟩ noFill_tuple_add seq_tuple_add PySem.F.slot_tuple_add PySem.F.entry_tuple_add (PySem.F.args_tuple_add_2 _ _)
    (tuple_addW1 t b vs.toArray [].toArray n n2 dd dd2 sl sl2 (by simpa using hv) (by simp)) ⟨ho,ho2,h t s.heap (by rw[aQ];exact ht') (λI I e=>e) (ao _)⟩
  .refine concat_meets ⟨_,ho,rfl⟩ ⟨_,ho2,rfl⟩ noFill_tuple_add seq_tuple_add PySem.F.slot_tuple_add PySem.F.entry_tuple_add (PySem.F.args_tuple_add_2 _ _)
    (tuple_addW2 t b vs.toArray ws.toArray n n2 dd dd2 sl sl2 (by simpa using hv) (by simpa using hw) (by rw[aI,aI];exact hsz)) ⟨ho,ho2,?_⟩
   rw[show vs.toArray++ws.toArray=(vs++ws).toArray from by simp];exact h _ _ ⟨_,aB _ rfl,rfl,0,rfl⟩ (λb o e=>ae _ e) (by rw[bB];exact au _)
theorem qe{i':Expr}(hn:kR i')(o i:Value):subscripted i' false o i=operate [o,i] (getItem o i):=by
 cases i'<;>first | rfl | exact absurd hn b8
section
variable{st:St} {y:Bool} {n:Nat} {α β:Type} {v a b:V} {c:Cx} {op:Operator} {T:α->Prop} {K:β->St->Prop}
theorem oA:(ig st y n).os=st.os:=by
 unfold ig;cases y with
 |true=>rfl
 |false=>cases Nat.blt n 4096<;>rfl
theorem i5(h:All (ig st y n).cs):All st.cs/\n<2^20:=by
 unfold ig at h;cases y with
 |true=>exact⟨h.tail,h.head⟩
 |false=>
  cases e:Nat.blt n 4096 with
  |true=>
   rw[e] at h;exact⟨h,aH (aV e) ()⟩
  |false=>rw[e] at h;exact h.head.elim
theorem fA(s:Shared):s.heap.get? s.heap.objs.size=none:=by
 cases e:s.heap.get? s.heap.objs.size with
 |none=>rfl
 |some o=>exact absurd (ay e) (bD _)
theorem LA{v:α}{p:Prop}(k:p->T v):oP (some (v,pO st p)) (KC st T):=⟨rfl,λhc=>⟨hc.tail,k hc.head⟩⟩
theorem KO{v:α}{m:Nat}(k:m<2^20->T v):oP (some (v,ig st y m)) (KC st T):=⟨oA,λhc=>let z:=i5 hc;⟨z.1,k z.2⟩⟩
theorem KC.imp{o:Option (α×St)}{W:α->List O->Prop}(h:oP o (KC st T))(k:∀v,T v->W v st.os):oP o (K0 st W):=h.mono λI I g hc=>let z:=g.2 hc;⟨z.1,by rw[g.1];exact k _ z.2⟩
theorem I7{o:Option (α×St)}{f:α->St->Option (β×St)}{W:β->List O->Prop}(h:oP o (KC st T))(k:∀a ch cs,oP (f a ⟨st.os,ch,cs⟩) (K0 ⟨st.os,ch,cs⟩ λv os=>T a->W v os)):oP (ob o f) (K0 st W):=
 LI h λa st1 h=>by
  obtain⟨os,ch,cs⟩:=st1;obtain⟨e,h2⟩:=h;have e:os=st.os:=e;subst e;exact(k a ch cs).mono λI I g hc=>let z:=g hc;let w:=h2 z.1;⟨w.1,z.2 w.2⟩
theorem sN{ads:List Addr}{u:V}:oP (lQ ads u st) (KC st (xH ads u)):=CX
theorem DB{o:Option O}{f:Bool->List V->Option (β×St)}(k:∀y xs,o=some (.list y xs)->oP (f y xs) K):oP (JW o f) K:=qw λo e=>match o,e with
 | .list y xs,e=>k y xs e
 | .frame _,_=>trivial
 | .stk _ _,_=>trivial
 | .inst _ _,_=>trivial
 | .dict _,_=>trivial
 | .any,_=>trivial
theorem DI{o:Option O}{f:Bool->List V->Option (β×St)}{g:List V->List Value->Option (β×St)}(k:∀y xs,o=some (.list y xs)->oP (f y xs) K)(k2:∀t r,o=some (.stk t r)->oP (g t r) K):oP (JY o f g) K:=qw λo e=>match o,e with
 | .list y xs,e=>k y xs e
 | .stk t r,e=>k2 t r e
 | .frame _,_=>trivial
 | .inst _ _,_=>trivial
 | .dict _,_=>trivial
 | .any,_=>trivial
theorem JF{o:Option O}{f:Addr->List (Nm×V)->Option (β×St)}(k:∀C fs,o=some (.inst C fs)->oP (f C fs) K):oP (Kh o f) K:=qw λo e=>match o,e with
 | .inst C fs,e=>k C fs e
 | .list _ _,_=>trivial
 | .frame _,_=>trivial
 | .stk _ _,_=>trivial
 | .dict _,_=>trivial
 | .any,_=>trivial
theorem Hv{f:Bool->Option (β×St)}(k:∀b,v= .bool b->oP (f b) K):oP (IC v f) K:=by
 cases v with
 |bool b=>exact k b rfl
 |_=>exact N4
theorem Km{f:List V->Option (β×St)}(k:∀vs,v= .tup vs->oP (f vs) K):oP (MH v f) K:=by
 cases v with
 |tup b=>exact k b rfl
 |_=>exact N4
theorem IZ{l:List V}{f:V->Option (β×St)}(k:∀x,l=[x]->oP (f x) K):oP (LM l f) K:=match l,k with
 |[],_=>trivial
 |[x],k=>k x rfl
 |_::_::_,_=>trivial
theorem zo{l:List V}{f:V->List V->Option (β×St)}(k:∀x xs,l=x::xs->oP (f x xs) K):oP (HS l f) K:=match l,k with
 |[],_=>trivial
 |x::xs,k=>k x xs rfl
theorem LN{γ:Type}{o:Option γ}{f:γ->Option (β×St)}{d:Option (β×St)}(k:∀a,o=some a->oP (f a) K)(k2:o=none->oP d K):oP (od o f d) K:=match o,k,k2 with
 |some a,k,_=>k a rfl
 |none,_,k=>k rfl
theorem Mn{f:V->List Ch->Option (β×St)}(k:∀x r,oP (f x r) K):oP (Kx st f) K:=by
 obtain⟨os,ch,cs⟩:=st;cases ch with
 |nil=>exact N4
 |cons h l=>
  cases h with
  |v x=>exact k x l
  |_=>exact N4
theorem sx{k:Int}(h:A0 y k=some n):k=n:=by
 cases y with
 |true=>cases h
 |false=>cases k with
  |ofNat m=>cases h;rfl
  |negSucc _=>cases h
def QB(c:Cx)(n:Nat)(op:Operator)(a b:V)(os:List O)(v:V)(H':List O):Prop:=
 ∀(A:Around) (s:Shared) (ρ:List Addr) (x y:Value) (Q E:Value->Shared->Prop),ee A n->c.R ρ os s.heap->dH ρ s.heap a x->dH ρ s.heap b y->
  (∀ρ' s' z,c.Rs ρ os s ρ' H' s'->dH ρ' s'.heap v z->Q z s')->wpAny c.M A (binaryOp op x y) Q E s
theorem K4{z w:Bool}{i j k:Int}{os:List O}(h:∀(A:Around) (s:Shared) (u v:Tok) (Q E:Value->Shared->Prop),Q (.int k s.toks) {s with toks:=s.toks+1}->wpAny c.M A (binaryOp op (.int i u) (.int j v)) Q E s):QB c n op (.int y i) (.int z j) os (.int w k) os:=
 λA s ρ x x2 Q E rm R va vb q=>by
  obtain⟨t,rfl⟩:=va;obtain⟨u,rfl⟩:=vb;exact h A s t u Q E (q _ _ _ (eR.more R (λI I e=>e) rfl rfl (ao _)) ⟨_,rfl⟩)
theorem rL:oP (EM op a b st) (K0 st (QB c n op a b st.os)):=by
 cases a with
 |int y i=>cases b with
  |int z j=>cases op with
   |Add=>exact og (K4 λA s u v Q E q=>add_int q)
   |Sub=>exact og (K4 λA s u v Q E q=>sub_int q)
   |Mult=>exact CM λk=>K4 λA s u v Q E q=>PyProof.Rows.mul_int q k
   |Mod=>exact CM λk=>K4 λA s u v Q E q=>PyProof.Rows.mod_int' k q
   |FloorDiv=>exact CM λk=>K4 λA s u v Q E q=>PyProof.Rows.floordiv_int k.1 q (.inl k.2)
   |_=>exact N4
  |_=>exact N4
 |obj i=>cases b with
  |obj j=>cases op with
   |Add=>
    refine DB λy1 xs e1=>DB λy2 ys e2 hc=>⟨hc.tail,λA s ρ x y Q E rm R va vb q=>?_⟩
    obtain⟨a,ha,rfl⟩:=va;obtain⟨b,hb,rfl⟩:=vb;rw[<-dP] at ha hb;obtain⟨zs,m,ho,z⟩:=R.at ha e1;obtain⟨ws,m2,ho2,z2⟩:=R.at hb e2;have kz:=hc.head;refine PySem.P.add_list ho ho2 ?_ (by rw[aI,aI,z.length,z2.length];exact kz);rw[show zs.toArray++ws.toArray=(zs++ws).toArray from by simp];have k:∀b o,s.heap.get? b=some o->(s.heap.push (fw (zs++ws) 0)).get? b=some o:=λb o e=>ae _ e;exact q _ _ _ (eR.pushC (o:=.list true (xs++ys)) R k (λx m=>by cases aj.mp m;exact fA s) ⟨zs++ws,0,aB _ rfl,(z.up (.app _ _) (.of_keeps k)).app (z2.up (.app _ _) (.of_keeps k))⟩ rfl rfl (by rw[bB];exact au _))
     ⟨_,by rw[<-dP,<-R.len];exact gr _ _,rfl⟩
   |_=>exact N4
  |_=>exact N4
 |str y s=>cases b with
  |str z t=>cases op with
   |Add=>
    refine CM λk A s ρ x y Q E rm R va vb q=>?_;obtain⟨t,rfl⟩:=va;obtain⟨u,rfl⟩:=vb;exact PyProof.Rows.add_str (λt' tk=>q _ _ _ (eR.more R (λI I e=>e) rfl rfl (ao _)) ⟨_,rfl⟩) k
   |_=>exact N4
  |_=>exact N4
 |tup vs=>cases b with
  |tup ws=>cases op with
   |Add=>
    refine CM λk A s ρ x y Q E rm R va vb q=>?_;obtain⟨a,z',rfl,ta,ra⟩:=va;obtain⟨b,ita,rfl,tb,rb⟩:=vb;refine G6 ta tb (by rw[ra.length,rb.length];exact k) λd h' td k z=>?_;have rs:c.Rs ρ st.os s ρ st.os {s with heap:=h'}:=eR.more R k rfl rfl z;exact q _ _ _ rs ⟨d,_,rfl,td,(rs.vs R ra).app (rs.vs R rb)⟩
   |_=>exact N4
  |_=>exact N4
 |_=>exact N4
theorem mU{C':St}(h:EM op a b st=some (v,C'))(hc:All C'.cs):All st.cs/\QB c n op a b st.os v C'.os:=rL.out h hc
theorem dy.len_lt{ρ:List Addr}{h:Heap}{vs:List V}{xs:List Value}(r:dy ρ h vs xs):xs.toArray.size=vs.length:=by rw[aI,r.length]
def QL(c:Cx)(n:Nat)(a:V)(os:List O)(v:V):Prop:=
 ∀(A:Around) (s:Shared) (ρ:List Addr) (x:Value) (Q E:Value->Shared->Prop),ee A n->c.R ρ os s.heap->e9 c ρ->dH ρ s.heap a x->
  (∀s' z,c.Rs ρ os s ρ os s'->dH ρ s'.heap v z->Q z s')->wpAny c.M A (call (.builtin "len") [x]) Q E s
theorem yp:oP (HH c.P.ads a st) (KC st (QL c n a st.os)):=by
 have go:∀{y:Bool} {m:Nat} {a:V} {os:List O},m<2^62->(∀(ρ:List Addr) (s:Shared) (x:Value),c.R ρ os s.heap->e9 c ρ->dH ρ s.heap a x->∃d z',x= .ref d/\s.heap.IsList d z'/\z'.size=m)->QL c n a os (.int y m):=by
  intro y m a os lt k A s ρ x Q E rm R ad va q;obtain⟨d,z',rfl,il,z⟩:=k ρ s x R ad va;exact PyProof.Rows.len_list il (by rw[z];omega) (q _ _ (eR.more R (λI I e=>e) rfl rfl (ao _)) ⟨s.toks+1,by rw[z]⟩)
 have lst:∀{a:V},oP (Dh c.P.ads a st) (KC st (QL c n a st.os)):=by
  intro a;refine LH λi ch cs=>DI (λy xs e2=>KO λlt M=>go (by omega) λρ s x R ad va=>?_) λtop u' e2=>LA λlt M=>go lt λρ s x R ad va=>?_
  .obtain⟨d,hd,rfl⟩:=M ρ s.heap x ad va
   obtain⟨z',m,ho,z⟩:=R.at hd e2;exact⟨d,z'.toArray,rfl,⟨_,ho,rfl,m,rfl⟩,z.len_lt⟩
  .obtain⟨d,hd,rfl⟩:=M ρ s.heap x ad va
   obtain⟨z',m,ho,z⟩:=R.at hd e2;exact⟨d,(u'++z').toArray,rfl,⟨_,ho,rfl,m,rfl⟩,by rw[aI,ai,z.length,bL]⟩
 cases a with
 |str y w=>
  refine KO λlt A s ρ x Q E rm R ad va q=>?_;obtain⟨t,rfl⟩:=va;exact P.len_str (by omega) (q _ _ (eR.more R (λI I e=>e) rfl rfl (ao _)) ⟨_,rfl⟩)
 |tup vs=>
  refine KO λlt A s ρ x Q E rm R ad va q=>?_;obtain⟨d,z',rfl,ta,ra⟩:=va;exact len_tuple ta (by rw[ra.len_lt];omega) (q _ _ (eR.more R (λI I e=>e) rfl rfl (ao _)) ⟨s.toks+1,by rw[ra.len_lt]⟩)
 |_=>exact lst
theorem lA{m:Nat}(h:n<m):seqIndex? (n:Int) m=some n:=by
 unfold seqIndex?;have a:¬(n:Int)<0:=Int.not_lt.mpr (Int.natCast_nonneg n);simp only[a,if_false];rw[if_pos (by rw[av (Int.natCast_nonneg n),av (bX.mpr h)];rfl)];rfl
def QI(c:Cx)(n:Nat)(a b:V)(os:List O)(v:V):Prop:=
 ∀(A:Around) (s:Shared) (ρ:List Addr) (x y:Value) (o' i':Expr) (Q E:Value->Shared->Prop),kR i'=true->ee A n->c.R ρ os s.heap->e9 c ρ->dH ρ s.heap a x->dH ρ s.heap b y->
  (∀s' z,c.Rs ρ os s ρ os s'->dH ρ s'.heap v z->Q z s')->wpAny c.M A (subscriptTail o' i' x y) Q E s
theorem qM:oP (xV c.P.ads a b st) (KC st (QI c n a b st.os)):=by
 cases b with
 |int yy k=>
  have go:∀{v a:V} {os:List O},0<=k->k<2^62->(∀(ρ:List Addr) (s:Shared) (x:Value),c.R ρ os s.heap->e9 c ρ->dH ρ s.heap a x->∃d z' z,x= .ref d/\s.heap.IsList d z'/\z'[k.toNat]?=some z/\dH ρ s.heap v z)->QI c n a (.int yy k) os v:=by
   intro v a os k0 k1 h A s ρ x y o' i' Q E ns rm R ad va vb q;obtain⟨d,z',z,rfl,il,hz,vz⟩:=h ρ s x R ad va;obtain⟨u,rfl⟩:=vb;exact tail_any il.typeIs slot_list_getitem.lookup (wpAny_getItem_list il k0 (by omega) hz (q _ _ (.refl R) vz)) (qe ns _ _)
  have lst:∀{a:V},oP (zQ c.P.ads a yy k st) (KC st (QI c n a (.int yy k) st.os)):=by
   intro a;have at_:∀{i:Nat} {os:List O} {y:Bool} {xs:List V} {v:V},xH c.P.ads a i->nth os i=some (.list y xs)->nth xs k.toNat=some v->∀(ρ:List Addr) (s:Shared) (x:Value),c.R ρ os s.heap->e9 c ρ->dH ρ s.heap a x->∃d z' z,x= .ref d/\s.heap.IsList d z'/\z'[k.toNat]?=some z/\dH ρ s.heap v z:=by
    intro i os y xs v M e2 e3 ρ s x R ad va;obtain⟨d,hd,rfl⟩:=M ρ s.heap x ad va;obtain⟨z',w,ho,z⟩:=R.at hd e2;obtain⟨zz,hz,vz⟩:=z.nth e3;exact⟨d,z'.toArray,zz,rfl,⟨_,ho,rfl,w,rfl⟩,by simpa using hz,vz⟩
   refine LH λi ch cs=>DI (λy xs e2=>LN (λm em=>qw λv e3=>KO λlt M=>?_) (λI=>Mn λx r=>⟨rfl,λhc=>⟨hc.tail,λM=>go hc.head.1 hc.head.2.1 (at_ M e2 hc.head.2.2)⟩⟩)) λtop u' e2=>zo λv tl et=>LA λkk M=>?_
   .have ek:=sx em
    exact go (by omega) (by omega) (at_ M e2 (by rw[ek];exact e3))
   .subst et
    refine go (by omega) kk.2 λρ s x R ad va=>?_;obtain⟨d,hd,rfl⟩:=M ρ s.heap x ad va;obtain⟨z',w,ho,z⟩:=R.at hd e2;rw[bu] at z;have nz:nth (tl.reverse++[v]) tl.reverse.length=some v:=gr _ _;obtain⟨zz,hz,vz⟩:=z.nth nz;rw[bL] at hz;exact⟨d,(u'++z').toArray,zz,rfl,⟨_,ho,rfl,w,rfl⟩,by rw[kk.1,Int.toNat_natCast,List.getElem?_toArray,List.getElem?_append_right (aA _ _),Nat.add_sub_cancel_left];exact hz,vz⟩
  cases a with
  |tup vs=>
   refine qw λm em=>qw λv e=>KO λlt A s ρ x y o' i' Q E ns rm R ad va vb q=>?_;have ek:=sx em;subst ek;obtain⟨d,z',rfl,ta,ra⟩:=va;obtain⟨u,rfl⟩:=vb;obtain⟨z,hz,vz⟩:=ra.nth e;exact item_tupleT ta (by omega) (by omega) (lA (by rw[ra.length];exact fR e)) hz (q _ _ (.refl R) vz) (qe ns _ _)
  |str y0 str=>
   refine LA λkk A s ρ x y o' i' Q E ns rm R ad va vb q=>?_;obtain⟨t,rfl⟩:=va;obtain⟨u,rfl⟩:=vb;obtain⟨k1,k2,k3⟩:=kk;obtain⟨m,rfl⟩:=Int.eq_ofNat_of_zero_le k1;have lt:m<str.length:=bX.mp k2;refine tail_any (typeIs_str _ _ _) PySem.F.slot_str_getitem.lookup (P.getItem_str (c:=str.cps.getD m 0) (Bool.or_eq_false_iff.mpr ⟨ag (by omega),ag (by omega)⟩) ?_ (q _ _ (eR.more R (λI I e=>e) rfl rfl (ao _)) ⟨_,rfl⟩)) (qe ns _ _);rw[lA lt];show str.cps[m]?=some (str.cps.getD m 0);rw[Array.getD_eq_getD_getElem?,Array.getElem?_eq_getElem lt];rfl
  |_=>exact lst
 |_=>exact N4
theorem nN{C':St}(h:xV c.P.ads a b st=some (v,C'))(hc:All C'.cs):All st.cs/\C'.os=st.os/\QI c n a b st.os v:=(qM.out h).get hc
end
section
set_option tactic.hygienic true
def rt(o:Option Int)(x:Value):Prop:=match o with
 |none=>x= .none
 |some i=>∃t,x= .int i t
section
variable{v:V} {o o':O} {y:Bool} {c:Cx} {n i:Nat} {st:St} {prog:Program} {w:World} {A:Around} {E Q:Value->Shared->Prop} {s:Shared} {D:Addr} {z' pre:List Value} {ρ:List Addr} {h:Heap} {cn:List V} {os:List O}
theorem yl{v:Option V}{o:Option Int}(h:p8 v=some (o,y)):(v=none/\o=none)\/∃i,v=some (.int y i)/\o=some i:=by
 cases v with
 |none=>injection h;exact .inl ⟨rfl,rfl⟩
 |some v=>
  cases v with
  |int z i=>injection h;exact .inr ⟨_,rfl,rfl⟩
  |_=>injection h
def QS(c:Cx)(n:Nat)(a:V)(lo hi:Option V)(os:List O)(v:V):Prop:=
  ∃lo' hi' y1 y2,p8 lo=some (lo',y1)/\p8 hi=some (hi',y2)/\
  ∀(A:Around) (s:Shared) (ρ:List Addr) (x l u:Value) (o':Expr) (p:Pos) (le he:Option Expr) (Q E:Value->Shared->Prop),ee A n->c.R ρ os s.heap->dH ρ s.heap a x->rt lo' l->rt hi' u->
   (∀s' z,c.Rs ρ os s ρ os s'->dH ρ s'.heap v z->Q z s')->
   wpAny c.M A (subscriptTail o' (.Slice le he none p) x (.ref s.heap.objs.size)) Q E {s with heap:=s.heap.push {cls:=.type "slice",data:=.fields #[l,u,.none]}}
theorem xN{o:Option Int}{x:Value}(h:rt o x):∃z:Option (Int×Tok),z.map (·.1)=o/\x=(match z with | none=>.none | some (i,t)=>.int i t):=by
 cases o with
 |none=>exact⟨none,rfl,h⟩
 |some i=>obtain⟨t,e⟩:=h;exact⟨some (i,t),rfl,e⟩
theorem uN{a:V}{lo hi:Option V}:oP (zU a lo hi st) (KC st (QS c n a lo hi st.os)):=by
 cases a with
 |str y str=>
  refine qw λp1 e1=>qw λp2 e2=>LA λhz=>⟨p1.1,p2.1,p1.2,p2.2,e1,e2,λA s ρ x l u o' p le he Q E rm R va pl pu q=>?_⟩
  obtain⟨t,rfl⟩:=va;obtain⟨zl,el,rfl⟩:=xN pl;obtain⟨zu,eu,rfl⟩:=xN pu;rw[<-el,<-eu] at q;refine tail_any (typeIs_str _ _ _) PySem.F.slot_str_getitem.lookup ?_ (ops:=[.str str t,.ref s.heap.objs.size]) rfl;exact wpAny_getItem_str_slice (l:=zl) (u:=zu) (st:=none) ⟨_,aB _ rfl,rfl,rfl⟩ rfl
   (post_val_or_str ⟨ax (Txt.slice_le str _ _) hz,λt' k=>q _ _ (eR.more R (λb o e=>ae _ e) rfl rfl (by rw[bB];exact au _)) ⟨_,rfl⟩⟩)
 |_=>exact N4
theorem dv:2^20<=sizeLine:=by rw[sizeLine_eq];decide
theorem t7:∀{x:V} {xs:List V} {l:V} {r:List V},nO x xs=(l,r)->x::xs=r++[l]
 |x,[],l,r,h=>by cases h;rfl
 |x,y::ys,l,r,h=>by
  have h:(match(generalizing:=false) nO y ys with | (l,i)=>(l,x::i))=(l,r):=h;cases e:nO y ys with
  |mk l' i=>
   rw[e] at h;cases h;rw[t7 e];rfl
theorem By{name:Str}{id:String}{pl:Sem Bool}{Q:Value×List Value->Shared->Prop}
  (ho:s.heap.get? D=some (fw z' n)) (slot:Slot "list" name id) (hty:typeOf (.builtin id)=pure (.type "method_descriptor")) (h:Q (.builtin id,[.ref D]) s):
  wpAny (model prog w) A (getMethod (.ref D) name pl) Q E s:=
 getMethod_builtin ⟨_,ho,rfl⟩ PySem.F.plainAttrs_list slot hty (λa e=>by cases e;exact⟨_,ho,rfl⟩) h
def Fo(k:Nat):String:=match k with
 |0=>"list.append"
 |1=>"list.pop"
 |2=>"list.extend"
 |_=>"list.reverse"
theorem qW{x:Value}
  (ho:s.heap.get? D=some (fw z' n)) (hsz:z'.length<=sizeLine)
  (h:∀h' n',Heap.SameBut D s.heap h'->h'.get? D=some (fw (z'++[x]) n')->Q .none {s with heap:=h'}):wpAny (model prog w) A (call (.builtin "list.append") [.ref D,x]) Q E s:=
 append_at ho (λh' sb e=>h h' (n+1) sb (by rw[e];simp [fw])) (by rw[aI];exact hsz)
theorem Eh{p:List Value}{y:Value}
  (ho:s.heap.get? D=some (fw (p++[y]) n)) (hsz:(p++[y]).length<=sizeLine)
  (h:∀h' n',Heap.SameBut D s.heap h'->h'.get? D=some (fw p n')->Q y {s with heap:=h'}):wpAny (model prog w) A (call (.builtin "list.pop") [.ref D]) Q E s:=by
 have hz':(p++[y]).toArray.size<=sizeLine:=by rw[aI];exact hsz
 have hk:(p++[y]).toArray.size - 1=p.length:=by rw[aI,ai];rfl
 have hy:(p++[y]).toArray[(p++[y]).toArray.size - 1]?=some y:=by rw[hk];simp
 refine call_meets PySem.F.slot_list_pop ⟨_,ho,rfl⟩ PySem.F.entry_list_pop (PySem.F.args_list_pop_1 _) (PySem.MeetsSeq.list_pop_last D _ n y hy hz') ⟨ho,h _ (n+1) (bU ..) ?_⟩;have q:=PySem.IsL.update ho (λxs=>xs.eraseIdxIfInBounds ((p++[y]).toArray.size - 1));rw[hk,W.kl_erase,aQ,if_neg (by simp)] at q;rw[hk];exact q
theorem BS{p:List Value}{y:Value}{u:Tok}
  (ho:s.heap.get? D=some (fw (y::p) n)) (hsz:(y::p).length<=sizeLine)
  (h:∀h' n',Heap.SameBut D s.heap h'->h'.get? D=some (fw p n')->Q y {s with heap:=h'}):wpAny (model prog w) A (call (.builtin "list.pop") [.ref D,.int 0 u]) Q E s:=by
 have hz':(y::p).toArray.size<=sizeLine:=by rw[aI];exact hsz
 refine call_meets PySem.F.slot_list_pop ⟨_,ho,rfl⟩ PySem.F.entry_list_pop (PySem.F.args_list_pop_2 _ _) (PySem.MeetsSeq.list_pop_at D _ n 0 u 0 y () (lA (by simp)) (by simp) hz') ⟨ho,h _ (n+1) (bU ..) ?_⟩;have q:=PySem.IsL.update ho (λxs=>xs.eraseIdxIfInBounds 0);rw[show((y::p).toArray).eraseIdxIfInBounds 0=p.toArray from W.kl_erase [] p y,if_neg (by simp)] at q;exact q
theorem wC{b:Addr}{its2:List Value}{n2:Nat}
  (ho:s.heap.get? D=some (fw z' n)) (hb:s.heap.get? b=some (fw its2 n2)) (hsz:z'.length+its2.length<=sizeLine)
  (h:∀h' n',Heap.SameBut D s.heap h'->h'.get? D=some (fw (z'++its2) n')->Q .none {s with heap:=h'}):wpAny (model prog w) A (call (.builtin "list.extend") [.ref D,.ref b]) Q E s:=by
 have hsz':z'.toArray.size+its2.toArray.size<=sizeLine:=by rw[aI,aI];exact hsz
 refine call_meets PySem.F.slot_list_extend ⟨_,ho,rfl⟩ PySem.F.entry_list_extend (PySem.F.args_list_extend_2 _ _) (AutoSeq1.list_extend_list_list_0 D z'.toArray n b its2.toArray n2 (extend_door hsz') (ax (aA _ _) hsz') (aG hsz')) ⟨ho,hb,h _ (if(z'.toArray++its2.toArray).size==z'.toArray.size then n else n+1) (bU ..) ?_⟩;have q:=PySem.IsL.update ho (λxs=>xs++its2.toArray);rw[show z'.toArray++its2.toArray=(z'++its2).toArray from by simp] at q ⊢;exact q
theorem u2
  (ho:s.heap.get? D=some (fw z' n)) (hsz:z'.length<=sizeLine)
  (h:∀h' n',Heap.SameBut D s.heap h'->h'.get? D=some (fw z'.reverse n')->Q .none {s with heap:=h'}):wpAny (model prog w) A (call (.builtin "list.reverse") [.ref D]) Q E s:=by
 refine call_meets PySem.F.slot_list_reverse ⟨_,ho,rfl⟩ PySem.F.entry_list_reverse (PySem.F.args_list_reverse_1 _) (AutoSeq1.list_reverse_list_0 D z'.toArray n (by rw[aI];exact hsz)) ⟨ho,h _ n (bU ..) ?_⟩;rw[bM _ ho (by rw[mapSeq_reverse];rfl),mapSeq_reverse]
theorem dy.split:∀{vs ws:List V} {zs:List Value},dy ρ h (vs++ws) zs->∃xs ys,zs=xs++ys/\dy ρ h vs xs/\dy ρ h ws ys
 |[],_,zs,r=>⟨[],zs,rfl,rfl,r⟩
 |_::_,_,_,zh3=>by
  obtain⟨x,zs,e,a,r⟩:=zh3;subst e;obtain⟨xs,ys,e,p,q⟩:=r.split;exact⟨x::xs,ys,by rw[e];rfl,.cons a p,q⟩
theorem dy.one{zs:List Value}(r:dy ρ h [v] zs):∃x,zs=[x]/\dH ρ h v x:=by
 obtain⟨x,xs,rfl,a,b⟩:=r;cases b;exact⟨x,rfl,a⟩
theorem dy.rev:∀{vs:List V} {xs:List Value},dy ρ h vs xs->dy ρ h vs.reverse xs.reverse
 |[],_,e=>by cases e;exact rfl
 |v::vs,_,zh2=>by
  obtain⟨x,xs,e,a,r⟩:=zh2;subst e;rw[bu,bu];exact r.rev.app (.cons a .nil)
theorem eR.setL{nm:Nat->Str}{P:PW}{h₀ h':Heap}{σ:List O}(R:kB nm P h₀ ρ σ s.heap){a:Addr}(ha:nth ρ i=some a)(ho:nth σ i=some o)(hf:foot a o'=foot a o)
  (hf1:foot a o=[a]) (sb:Heap.SameBut a s.heap h') (r:j5 nm P ρ h' a o') (hk:∀m,o= .frame m->∃m',o'= .frame m':=by walk_at "f"):eR nm P h₀ ρ σ s ρ (setN σ i o') {s with heap:=h'}:=
 eR.setC R ha ho hf (λb x e m=>by rw[sb.2 b (λq=>m (by rw[hf1,q];exact .head _))];exact e) r rfl rfl (aY sb.1.symm) hk
theorem kB.tkBut{nm:Nat->Str}{P:PW}{h₀ h':Heap}{σ:List O}(R:kB nm P h₀ ρ σ h){a:Addr}(ha:nth ρ i=some a)(ho:nth σ i=some o)(hf1:foot a o=[a])(sb:Heap.SameBut a h h'):fU h h':=
 R.tupKeep λb x e m=>by rw[sb.2 b (λq=>m (dC.mpr ⟨i,a,o,ha,ho,by rw[hf1,q];exact .head _⟩))];exact e
def QM(c:Cx)(n k i:Nat)(as:List V)(os:List O)(v:V)(H':List O):Prop:=
  ∀(A:Around) (s:Shared) (ρ:List Addr) (a:Addr) (xs:List Value) (Q E:Value->Shared->Prop),ee A n->c.R ρ os s.heap->e9 c ρ->nth ρ i=some a->dy ρ s.heap as xs->
   (∀s' z,c.Rs ρ os s ρ H' s'->dH ρ s'.heap v z->Q z s')->wpAny c.M A (call (.builtin (Fo k)) (.ref a::xs)) Q E s
structure tF(o:O)(pre:List Value)(cn:List V):Prop where
 rep:∀{nm P ρ h a},j5 nm P ρ h a o↔∃z' n,h.get? a=some (fw (pre++z') n)/\dy ρ h cn z'
 ft:∀a,foot a o=[a]
 nf:∀m,o≠ .frame m
theorem ij{xs:List V}:tF (.list y xs) [] xs:=⟨Iff.rfl,λI=>rfl,λI e=>nomatch e⟩
theorem mZ{top:List V}{u':List Value}(e:top.reverse=cn):tF (.stk top u') u' cn:=by subst e;exact⟨Iff.rfl,λI=>rfl,λI e=>nomatch e⟩
theorem wP{α:Type}{W:α->List O->Prop}{v:α}{m:Nat}(k:m<2^20->W v (setN st.os i o')):oP (some (v,ig (mE st i o') y m)) (K0 st W):=λhc=>
 let z:=i5 hc;⟨z.1,by rw[oA];exact k z.2⟩
theorem qm{k:Nat}{as cn':List V}(e:nth os i=some o)(l:tF o pre cn)(l':tF o' pre cn')
  (h:∀(A:Around) (s:Shared) (ρ:List Addr) (a:Addr) (xs z':List Value) (m:Nat) (Q E:Value->Shared->Prop),c.R ρ os s.heap->e9 c ρ->dy ρ s.heap as xs->dy ρ s.heap cn z'->z'.length=cn.length->s.heap.get? a=some (fw (pre++z') m)->
   (∀h' n' its' z,Heap.SameBut a s.heap h'->h'.get? a=some (fw (pre++its') n')->(fU s.heap h'->dy ρ h' cn' its'/\dH ρ h' v z)->Q z {s with heap:=h'})->wpAny c.M A (call (.builtin (Fo k)) (.ref a::xs)) Q E s):QM c n k i as os v (setN os i o'):=λA s ρ a xs Q E rm R ad ha vs q=>by
 obtain⟨z',m,ho,z⟩:=l.rep.mp (R.at ha e);refine h A s ρ a xs z' m Q E R ad vs z z.length ho λh' n' its' w sb e' k=>?_;have f:=l.ft a;have k:=k (R.tkBut ha e f sb);exact q _ _ (eR.setL R ha e ((l'.ft a).trans f.symm) f sb (l'.rep.mpr ⟨_,_,e',k.1⟩) λm e=>absurd e (l.nf m)) k.2
theorem E7(e:nth os i=some o)(l:tF o pre cn)(l':tF o' pre (cn++[v]))(hz:pre.length+cn.length<2^20):QM c n 0 i [v] os .none (setN os i o'):=
 qm e l l' λA s ρ a xs z' m Q E R ad vs z zl ho q=>by
  obtain⟨x,rfl,vx⟩:=vs.one;exact qW ho (by rw[ai,zl];exact aZ (aH hz dv)) λh' n' sb e'=>q h' n' (z'++[x]) .none sb (by rw[e',aw]) λtk=>⟨(z.up (.refl _) tk).app (.cons (vx.up (.refl _) tk) .nil),rfl⟩
theorem Ey(e:nth os i=some o)(l:tF o pre (cn++[v]))(l':tF o' pre cn)(hz:pre.length+(cn++[v]).length<2^20):QM c n 1 i [] os v (setN os i o'):=
 qm e l l' λA s ρ a xs z' m Q E R ad vs z zl ho q=>by
  obtain rfl:=vs;obtain⟨z1,z2,rfl,r1,r2⟩:=z.split;obtain⟨w,rfl,vw⟩:=r2.one;rw[<-aw] at ho;exact Eh ho (by rw[aw,ai,zl];exact aZ (aH hz dv)) λh' n' sb e'=>q h' n' z1 w sb e' λtk=>⟨r1.up (.refl _) tk,vw.up (.refl _) tk⟩
theorem En{j:Nat}{u:V}{ys:List V}(M:xH c.P.ads u j)(e2:nth os j=some (.list y ys))(e:nth os i=some o)(l:tF o pre cn)(l':tF o' pre (cn++ys))(hz:pre.length+cn.length+ys.length<2^20):QM c n 2 i [u] os .none (setN os i o'):=
 qm e l l' λA s ρ a xs z' m Q E R ad vs z zl ho q=>by
  obtain⟨x,rfl,vx⟩:=vs.one;obtain⟨b,hb,rfl⟩:=M ρ s.heap x ad vx;obtain⟨ws,m2,ho2,z2⟩:=R.at hb e2;exact wC ho ho2 (by rw[ai,zl,z2.length];exact aZ (aH hz dv)) λh' n' sb e'=>q h' n' (z'++ws) .none sb (by rw[e',aw]) λtk=>⟨(z.up (.refl _) tk).app (z2.up (.refl _) tk),rfl⟩
theorem xg{k:Nat}{as:List V}:oP (AV c.P.ads k i as st) (K0 st (QM c n k i as st.os)):=by
 have len0:∀{a:Nat},a<2^20->([]:List Value).length+a<2^20:=λh=>by rw[bI,bS];exact h
 match k with
 |0=>
  refine zo λv as0 e=>?_;subst e;cases as0 with
  |nil=>exact DI (λy xs e=>wP λk=>E7 e ij ij (len0 k)) λtop u' e=>wP λk=>E7 e (mZ rfl) (mZ bu) (by rw[bL];exact k)
  |cons _ _=>exact N4
 |1=>
  cases as with
  |nil=>
   refine DI (λy xs e=>zo λx xs' e2=>wP λk=>?_) λtop u' e=>zo λv top' e2=>wP λk=>?_
   .have el:=t7 (Prod.eta (nO x xs')).symm
    rw[e2,el] at e;exact Ey e ij ij (len0 (by rw[<-el];exact k))
   .subst e2
    exact Ey e (mZ bu) (mZ rfl) (by rw[ai,bL];exact k)
  |cons a as0=>cases as0 with
   |nil=>cases a with
    |int z k=>cases z with
     |false=>cases k with
      |ofNat n0=>cases n0 with
       |zero=>
        refine DB λy xs e=>zo λx xs' e2=>wP λk=>?_;subst e2;exact qm e ij ij λA s ρ a xs z' m Q E R ad vs z zl ho q=>by
         obtain⟨x0,rfl,t,rfl⟩:=vs.one;obtain⟨w,ws,rfl,vw,r1⟩:=z;exact BS (p:=ws) ho (by rw[zl];exact aZ (aH k dv)) λh' n' sb e'=>q h' n' ws w sb e' λtk=>⟨r1.up (.refl _) tk,vw.up (.refl _) tk⟩
       |succ _=>exact N4
      |negSucc _=>exact N4
     |true=>exact N4
    |_=>exact N4
   |cons _ _=>exact N4
 |2=>
  refine zo λu as0 e=>?_;subst e;cases as0 with
  |nil=>
   exact I7 sN λj ch cs=>DB λy0 ys e2=>DI (λy xs e=>yF (λI=>trivial) λI=>wP λk M=>En M e2 e ij ij (by rw[bI,bS];exact k))
    λtop u' e=>yF (λI=>trivial) λI=>wP λk M=>En M e2 e (mZ rfl) (mZ (by rw[List.reverse_append,List.reverse_reverse])) (by rw[bL];exact k)
  |cons _ _=>exact N4
 |3=>
  cases as with
  |nil=>
   exact DB λy xs e=>wP λk=>qm e ij ij λA s ρ a xs z' m Q E R ad vs z zl ho q=>by
    obtain rfl:=vs;exact u2 (z':=z') ho (by rw[zl];exact aZ (aH k dv)) λh' n' sb e'=>q h' n' z'.reverse .none sb e' λtk=>⟨(z.up (.refl _) tk).rev,rfl⟩
  |cons _ _=>exact N4
 |_+4=>exact N4
end
end
section
set_option tactic.hygienic true
theorem nv(a b:Str)(t:Tok):(Value.str a t).isStr b=(a==b):=rfl
theorem gB{k n:Nat}{b:Bool}(e:Nat.beq k n=b):(b=true↔k=n):=by
 cases b with
 |true=>exact⟨λI=>aP e,λI=>rfl⟩
 |false=>exact⟨λh=>Bool.noConfusion h,λh=>absurd (h▸e) (by simp)⟩
section
variable{k n:Nm} {nm:Nat->Str} {ρ:List Addr} {h:Heap} {v:V} {r:List (Nat×V)} {fs:List (Nm×V)} {es:List DictEntry}
theorem hU.noRef:∀{fs:List (Nm×V)} {es:List DictEntry},hU nm ρ h fs es->es.any (·.refKey)=false
 |[],_,e=>by cases e;rfl
 |_::_,_,zh2=>by
  obtain⟨hs,t,x,r,e,_,b⟩:=zh2;subst e;rw[List.any_cons,b.noRef];rfl
theorem hU.length:∀{fs:List (Nm×V)} {es:List DictEntry},hU nm ρ h fs es->es.length=fs.length
 |[],_,e=>by cases e;rfl
 |_::_,_,zh2=>by
  obtain⟨hs,t,x,r,e,_,b⟩:=zh2;subst e;exact az (·+1) b.length
theorem kS(h:Nat.beq k n):gX n ((k,v)::r)=some v:=by
 show(match Nat.beq k n with | true=>some v | false=>gX n r)=_;rw[h]
theorem iU(h:Nat.beq k n=false):gX n ((k,v)::r)=gX n r:=by
 show(match Nat.beq k n with | true=>some v | false=>gX n r)=_;rw[h]
theorem wu{x:V}(h:Nat.beq k n):jK n v ((k,x)::r)=(k,v)::r:=by
 show(match Nat.beq k n with | true=>(k,v)::r | false=>(k,x)::jK n v r)=_;rw[h]
theorem uj{x:V}(h:Nat.beq k n=false):jK n v ((k,x)::r)=(k,x)::jK n v r:=by
 show(match Nat.beq k n with | true=>(k,v)::r | false=>(k,x)::jK n v r)=_;rw[h]
theorem hU.find(inj:∀i j,nm i=nm j->i=j):∀{fs:List (Nm×V)} {es:List DictEntry},hU nm ρ h fs es->∀n,match gX n fs with
  |some v=>∃en,es.find? (·.key.isStr (nm n))=some en/\dH ρ h v en.val
  |none=>es.find? (·.key.isStr (nm n))=none
 |[],_,e,n=>by cases e;rfl
 |(k,v)::fs,_,zh2,n=>by
  obtain⟨hs,t,x,r,e,a,b⟩:=zh2;subst e;have ih:=b.find inj n;cases q:Nat.beq k n with
  |true=>
   rw[kS q];obtain rfl:=(gB q).mp rfl;exact⟨⟨hs,.str (nm k) t,x⟩,by rw[List.find?_cons,nv,bC],a⟩
  |false=>
   have ne:(nm k==nm n)=false:=by
    rw[bK];intro z;have:=(gB q).mpr (inj _ _ z);cases this
   rw[iU q,List.find?_cons,nv,ne];exact ih
theorem hU.getL(inj:∀i j,nm i=nm j->i=j)(r:hU nm ρ h fs es)(e:gX n fs=some v):∃x,W.getL (nm n) es=some (some x)/\dH ρ h v x:=by
 have:=r.find inj n;rw[e] at this;obtain⟨en,h1,h2⟩:=this;exact⟨en.val,by unfold W.getL;rw[h1],h2⟩
theorem hU.getL_none(inj:∀i j,nm i=nm j->i=j)(r:hU nm ρ h fs es)(e:gX n fs=none):W.getL (nm n) es=some none:=by
 have:=r.find inj n;rw[e] at this;unfold W.getL;rw[this];simp [r.noRef]
theorem hU.getL_some(inj:∀i j,nm i=nm j->i=j)(r:hU nm ρ h fs es)(n:Nm):(W.getL (nm n) es).isSome=true:=by
 cases e:gX n fs with
 |none=>rw[r.getL_none inj e];rfl
 |some v=>obtain⟨x,q,_⟩:=r.getL inj e;rw[q];rfl
theorem hU.put(inj:∀i j,nm i=nm j->i=j){x:Value}(hx:dH ρ h v x)(hs:Int)(t:Tok):∀{fs:List (Nm×V)} {es:List DictEntry},hU nm ρ h fs es->hU nm ρ h (jK n v fs) (W.putL (nm n) hs (.str (nm n) t) x es)
 |[],_,e=>by cases e;exact⟨hs,t,x,[],rfl,hx,rfl⟩
 |(k,w)::fs,_,zh2=>by
  obtain⟨hk,tk,y,r,e,a,b⟩:=zh2;subst e;cases q:Nat.beq k n with
  |true=>
   rw[wu q];obtain rfl:=(gB q).mp rfl;rw[show W.putL (nm k) hs (.str (nm k) t) x (⟨hk,.str (nm k) tk,y⟩::r)=_ from if_pos (by rw[nv,bC])];exact⟨hk,tk,x,r,rfl,hx,b⟩
  |false=>
   have ne:(nm k==nm n)=false:=by
    rw[bK];intro z;have:=(gB q).mpr (inj _ _ z);cases this
   rw[uj q,show W.putL (nm n) hs (.str (nm n) t) x (⟨hk,.str (nm k) tk,y⟩::r)=_ from if_neg (by rw[nv,ne];exact b8)];exact⟨hk,tk,y,_,rfl,a,b.put inj hx hs t⟩
theorem wn(name:Str)(hs:Int)(k v:Value):∀es:List DictEntry,(putL name hs k v es).length<=es.length+1
 |[]=>ao _
 |e::r=>by
  unfold putL
  split
  .exact au _
  .exact aC (wn name hs k v r)
theorem ju{K:Frag}{C:Addr}(h:pq K C):findIn K (.ref C) "__getattribute__"=some (some (.builtin "object.__getattribute__"))/\findIn K (.ref C) "__getattr__"=some none/\hasDictIn K C=true/\
  findIn K (.ref C) "__setattr__"=some (some (.builtin "object.__setattr__"))/\plainOver K C=true/\makesIn K C=true:=by
 unfold pq at h;obtain⟨h,e6⟩:=cW h;obtain⟨h,e5⟩:=cW h;obtain⟨h,e4⟩:=cW h;obtain⟨h,e3⟩:=cW h;obtain⟨e1,e2⟩:=cW h;exact⟨am.mp e1,am.mp e2,e3,am.mp e4,e5,e6⟩
theorem qT{K:Frag}{C:Addr}{x:Str}(h:CJ K C x):findIn K (.ref C) x=some none/\takerIn K C x=some none:=
 let⟨a,b⟩:=cW h;⟨am.mp a,am.mp b⟩
theorem oW{K:Frag}{C f:Addr}{x:Str}(h:rW K C x f):findIn K (.ref C) x=some (some (.ref f))/\typeIn K (.ref f)=some (.type "function"):=
 let⟨a,b⟩:=cW h;⟨am.mp a,am.mp b⟩
end
nonrec theorem Gb{prog:Program}{w:World}{A:Around}{s:Shared}{K:Frag}{a C:Addr}{es:List DictEntry}{n:Nat}{name:Str}{v:Value}{tk:Tok}{R:Result->Shared->Prop}(X:K.In s.heap)(hC:pq K C)(hF:takerIn K C name=some none)(h1:s.heap.get? a=some (instObj C (a - 1)))(h2:s.heap.get? (a - 1)=some (dictOf es n))(hl:(getL name es).isSome=true)(hz:es.length<=900)(h:∀h' n' hs tk,Heap.SameBut (a - 1) s.heap h'->h'.get? (a - 1)=some (dictOf (putL name hs (.str name tk) v es) n')->R (.ok (.ret .none)) {s with heap:=h',toks:=s.toks+1}):codeAny (model prog w) A (.call (.builtin "object.__setattr__") ⟨[.ref a,.str name tk,v],[]⟩) R s:=by
 obtain⟨c1,c2,c3,c4,c5,c6⟩:=ju hC;have ge:InstAt s.heap a (instObj C (a - 1)) C (some (dictOf es n)):=⟨h1,rfl,rfl,h2⟩
 refine osa_open X ge c5 hF λb=>?_;obtain⟨cd,hc,hd'⟩:=any_some c3;have up:(s.heap.update (a - 1) (Obj.putName name (PyData.keyHash w.params name) (.str name s.toks) v)).get? (a - 1)=some (dictOf (putL name (PyData.keyHash w.params name) (.str name s.toks) v es) (putN name es n)):=by
  have e:=putName_dict name (PyData.keyHash w.params name) (.str name s.toks) v es n;rw[bM _ h2 (by rw[e];rfl),e]
 refine aa (aE (aa (aa (wpAny_loadPart h1 (aa ((looks_clsIn X hc).here ?_))))));rw[hd'];refine aE (a:=some (a - 1)) (aa (aE (aa ?_)));unfold nsSet;refine aa (aa (wpAny_askSetting (aE (aa (wpAny_mkText (aa (wpAny_loadPart h2 ?_)))))));have c:(!es.toArray.any (·.key.isStr name)&&es.toArray.any (·.refKey))=false:=by
  rw[<-Array.any_toList,<-Array.any_toList];unfold getL at hl
  split at hl
  .rename_i en he
   rw[List.any_eq_true.mpr ⟨en,List.mem_of_find?_eq_some he,List.find?_some he⟩];rfl
  .split at hl
   .cases hl
   .rename_i z;rw[Bool.not_eq_true] at z;rw[z,Bool.and_false]
 dsimp only[dictOf];rw[aRefKeyMayBeTheName_at,c];refine wpAny_updatePart h2 ?_;refine aa (wpAny_lookBehind up (pastItsLine_dict (by rw[aI,sizeLine_eq];have:=wn name (PyData.keyHash w.params name) (.str name s.toks) v es;omega)) ?_);exact aE (h _ _ _ _ (bU ..) up)
theorem Fm{prog:Program}{w:World}{A:Around}{E:Value->Shared->Prop}{s:Shared}{K:Frag}{a C:Addr}{es:List DictEntry}{n:Nat}{name:Str}{v:Value}{Q:Unit->Shared->Prop}(X:K.In s.heap)(hC:pq K C)(hF:takerIn K C name=some none)
  (h1:s.heap.get? a=some (instObj C (a - 1))) (h2:s.heap.get? (a - 1)=some (dictOf es n)) (hl:(getL name es).isSome=true) (hz:es.length<=900)
  (h:∀h' n' hs tk,Heap.SameBut (a - 1) s.heap h'->h'.get? (a - 1)=some (dictOf (putL name hs (.str name tk) v es) n')->Q Unit.unit {s with heap:=h',toks:=s.toks+2}):
  wpAny (model prog w) A (setAttr (.ref a) name v) Q E s:=
 set_plain X (od:=some (dictOf es n)) ⟨h1,rfl,rfl,h2⟩ (ju hC).2.2.2.1 (Gb (s:={s with toks:=s.toks+1}) X hC hF h1 h2 hl hz λh' n' hs tk sb e=>h h' n' hs tk sb e)
theorem B1:(k:Nat)->handedIn (me k)=true
 |0 | 1 | 2 | 3 | 4 | 5 | 6 | 7=>by with_unfolding_all decide+kernel
 |_+8=>rfl
theorem dH.handed{ρ:List Addr}{h:Heap}{v:V}{x:Value}(vy:dH ρ h v x):handedIn x:=by
 cases v with
 |none=>cases vy;rfl
 |bool b=>cases vy;rfl
 |int _ _=>obtain⟨t,rfl⟩:=vy;rfl
 |str _ _=>obtain⟨t,rfl⟩:=vy;rfl
 |tup _=>obtain⟨_,_,rfl,_⟩:=vy;rfl
 |obj _=>obtain⟨_,_,rfl⟩:=vy;rfl
 |val y'=>obtain⟨rfl,ok⟩:=vy;exact vf ok
 |bi k=>cases vy;exact B1 k
section
variable{c:Cx} {st:St}
theorem Cx.Ok.In(X:c.Ok){ρ:List Addr}{σ:List O}{h:Heap}(R:c.R ρ σ h):c.K.In h:=X.X.keeps R.old
def QG(c:Cx)(n:Nm)(o:V)(os:List O)(v:V):Prop:=
  ∀(A:Around) (s:Shared) (ρ:List Addr) (x:Value) (ex:Bool) (Q E:Value->Shared->Prop),c.R ρ os s.heap->e9 c ρ->dH ρ s.heap o x->
   (∀s' z,c.Rs ρ os s ρ os s'->dH ρ s'.heap v z->Q z s')->wpAny c.M A (getAttr x (c.nm n) ex) Q E s
theorem vB(X:c.Ok){n:Nm}{o:V}:oP (vL c.P o n st) (KC st (QG c n o st.os)):=
 LH λi ch cs=>JF λC fs e2=>yF (λe3=>qw λv e4=>vJ λM A s ρ x ex Q E R ad va q=>by
  obtain⟨a,ha,rfl⟩:=M ρ s.heap x ad va;obtain⟨es,m,h0,h1,h2,fr⟩:=R.at ha e2;obtain⟨hC,hF⟩:=X.fld C n e3;obtain⟨y,g,vy⟩:=fr.getL X.inj e4;obtain⟨c1,c2,c3,c4,c5,c6⟩:=ju hC;exact get_value (X.In R) (od:=some (dictOf es m)) ⟨h1,rfl,rfl,h2⟩ c1 (findObj_own c3 (qT hF).1 rfl (by rw[lookIn_dict];exact g)) (dH.handed vy) (q _ _ (eR.more R (λI I e=>e) rfl rfl (ao _)) vy)) λI=>trivial
theorem vT(X:c.Ok){n:Nm}{o:V}{v:V}{C':St}(h:vL c.P o n st=some (v,C'))(hc:All C'.cs):All st.cs/\C'.os=st.os/\QG c n o st.os v:=((vB X).out h).get hc
def QF(c:Cx)(n:Nm)(o v:V)(os H':List O):Prop:=
  ∀(A:Around) (s:Shared) (ρ:List Addr) (x y:Value) (Q:Unit->Shared->Prop) (E:Value->Shared->Prop),c.R ρ os s.heap->e9 c ρ->dH ρ s.heap o x->dH ρ s.heap v y->
   (∀s',c.Rs ρ os s ρ H' s'->Q Unit.unit s')->wpAny c.M A (setAttr x (c.nm n) y) Q E s
theorem AZ(X:c.Ok){n:Nm}{o v:V}:oP (xU c.P o n v st) (K0 st λI=>QF c n o v st.os):=
 I7 sN λi ch cs=>JF λC fs e2=>yF (λe3=>yF (λe4 hc=>⟨hc,λM A s ρ x y Q E R ad va vy q=>by
  obtain⟨a,ha,rfl⟩:=M ρ s.heap x ad va;obtain⟨es,m,h0,h1,h2,fr⟩:=R.at ha e2;obtain⟨hC,hF⟩:=X.fld C n e3;have e4:=aV e4;refine Fm (X.In R) hC (qT hF).2 h1 h2 (fr.getL_some X.inj n) (by rw[fr.length];omega) λh' n' hs tk sb e5=>q _ ?_;have tk:fU s.heap h':=R.tupKeep λb z e m=>by
   rw[sb.2 b (λq=>m (dC.mpr ⟨i,a,_,ha,e2,by rw[q];exact .tail _ (.head _)⟩))];exact e
  refine eR.setC R ha e2 rfl (λb z e m=>?_) ⟨_,n',h0,?_,e5,(fr.up (.refl _) tk).put X.inj (vy.up (.refl _) tk) hs _⟩ rfl rfl (aY sb.1.symm)
  .rw[sb.2 b (λq=>m (by rw[q];exact .tail _ (.head _)))];exact e
  .rw[sb.2 a (λq=>absurd q.symm (bG (Nat.sub_lt h0 Nat.zero_lt_one)))];exact h1⟩) λI=>trivial) λI=>trivial
end
end
section
variable{st:St} {fi:Nat} {c:Cx} {A:Around} {env:Env} {s:Shared} {E:Value->Shared->Prop} {pos:Pos}
theorem uU{n:Nm}{v:V}(h:qB st fi n=some v):∃b,nth st.os fi=some (.frame b)/\gX n b=some v:=by
 unfold qB at h;cases e:nth st.os fi with
 |none=>rw[e] at h;cases h
 |some o=>
  rw[e] at h;cases o with
  |frame b=>exact⟨b,rfl,h⟩
  |_=>cases h
theorem pX{n:Nm}{v:V}(h:qB st fi n=some v){ρ:List Addr}{Q:Value->Shared->Prop}(en:dE env fi ρ)
  (hl:env.scope.names.lookup (c.nm n)=some .local) (R:c.R ρ st.os s.heap) (q:∀y,dH ρ s.heap v y->Q y s):wpAny c.M A (loadName env (c.nm n)) Q E s:=by
 obtain⟨b,e1,e2⟩:=uU h;obtain⟨m,hm,z⟩:=R.at en.loc e1;obtain⟨x,e3,vx⟩:=z n v e2;exact cj en.kind hl hm e3 (q x vx)
theorem g9(X:c.Ok){n:Nm}{v:V}(h:c.P.glob n=some v){ρ:List Addr}{Q:Value->Shared->Prop}(en:dE env fi ρ)
  (hl:env.scope.names.lookup (c.nm n)=some .globalImplicit) (hd:(c.nm n==("__debug__":Str))=false) (R:c.R ρ st.os s.heap) (q:∀y,dH ρ s.heap v y->Q y s):
  wpAny c.M A (eval (.Name (c.nm n) pos) env) Q E s:=by
 obtain⟨x,hx,vx⟩:=X.glob n v h;have vx':dH ρ s.heap v x:=vx.up (λI I e=>by cases e) (.of_keeps R.old);have g:=X.g.keeps R.old;have b:=X.b.keeps R.old;rw[<-en.glob] at g;rw[<-en.blt] at b;rcases hx with hx | ⟨h1,h2⟩
 .exact Name_function_global en.kind hl (loadGlobal_global g hx (q x vx')) hd
 .exact Name_function_global en.kind hl (loadGlobal_builtin g h1 b h2 (q x vx')) hd
def QN(c:Cx)(x t:V)(os:List O)(v:V):Prop:=
  ∀(A:Around) (s:Shared) (ρ:List Addr) (a b:Value) (Q E:Value->Shared->Prop),c.R ρ os s.heap->dH ρ s.heap x a->dH ρ s.heap t b->
   (∀s' z,c.Rs ρ os s ρ os s'->dH ρ s'.heap v z->Q z s')->wpAny c.M A (call (.builtin "isinstance") [a,b]) Q E s
theorem FV{x t:V}:oP (xO x t st) (KC st (QN c x t st.os)):=by
 have go:∀{k:Nat} {r:Bool} {P:Value->Shared->Prop},(∀ρ (s:Shared) a,dH ρ s.heap x a->P a s)->(∀(A:Around) (s:Shared) (a:Value) (Q E:Value->Shared->Prop),P a s->(∀k,Q (.bool r) {s with toks:=k})->wpAny c.M A (call (.builtin "isinstance") [a,me k]) Q E s)->QN c x (.bi k) st.os (.bool r):=
  λhP h A s ρ a b Q E R va vb q=>by
   obtain rfl:=vb;exact h A s a Q E (hP _ _ _ va) λk=>q _ _ (eR.more0 R (λI I e=>e) rfl rfl) rfl
 cases t with
 |bi k=>match k with
  |0=>exact N4
  |1=>exact N4
  |2=>cases x with
   |str _ _=>exact vJ (go (P:=λa I=>∃z u,a= .str z u) (λI I I ⟨u,e⟩=>⟨_,u,e⟩) λA s a Q E ⟨_,_,e⟩ q=>by subst e;exact IsiPair.str_str (q _))
   |int _ _=>exact vJ (go (P:=λa I=>∃z u,a= .int z u) (λI I I ⟨u,e⟩=>⟨_,u,e⟩) λA s a Q E ⟨_,_,e⟩ q=>by subst e;exact IsiPair.int_str (q _))
   |tup _=>exact vJ (go (P:=λa s=>∃d z',a= .ref d/\IsTup s.heap d z') (λI I I ⟨d,z',e,it,_⟩=>⟨d,_,e,it⟩) λA s a Q E ⟨_,_,e,o,ho,hcl,_⟩ q=>by subst e;exact IsiPair.tuple_str ho hcl (q _))
   |_=>exact N4
  |3=>cases x with
   |str _ _=>exact vJ (go (P:=λa I=>∃z u,a= .str z u) (λI I I ⟨u,e⟩=>⟨_,u,e⟩) λA s a Q E ⟨_,_,e⟩ q=>by subst e;exact IsiPair.str_tuple (q _))
   |int _ _=>exact vJ (go (P:=λa I=>∃z u,a= .int z u) (λI I I ⟨u,e⟩=>⟨_,u,e⟩) λA s a Q E ⟨_,_,e⟩ q=>by subst e;exact IsiPair.int_tuple (q _))
   |tup _=>exact vJ (go (P:=λa s=>∃d z',a= .ref d/\IsTup s.heap d z') (λI I I ⟨d,z',e,it,_⟩=>⟨d,_,e,it⟩) λA s a Q E ⟨_,_,e,o,ho,hcl,_⟩ q=>by subst e;exact IsiPair.tuple_tuple ho hcl (q _))
   |_=>exact N4
  |_+4=>exact N4
 |_=>exact N4
theorem eR.newL{nm:Nat->Str}{P:PW}{h₀ h':Heap}{ρ:List Addr}{σ:List O}(R:kB nm P h₀ ρ σ s.heap){xs:List V}{z':List Value}{n:Nat}{y:Bool}(k:∀b x,s.heap.get? b=some x->h'.get? b=some x)
  (e:h'.get? s.heap.objs.size=some (fw z' n)) (vs:dy ρ s.heap xs z'):eR nm P h₀ ρ σ s (ρ++[s.heap.objs.size]) (σ++[.list y xs]) {s with heap:=h'}/\dH (ρ++[s.heap.objs.size]) h' (.obj σ.length) (.ref s.heap.objs.size):=by
 have r:=eR.pushC (s':={s with heap:=h'}) (o:=.list y xs) R k (λx m=>by cases aj.mp m;exact fA s)
  ⟨z',n,e,vs.up (.app _ _) (.of_keeps k)⟩ rfl rfl
 have z:nth (ρ++[s.heap.objs.size]) σ.length=some s.heap.objs.size:=by rw[<-R.len];exact gr _ _
 rw[dP] at z
 by_cases hz:s.heap.objs.size<=h'.objs.size
 .exact⟨r hz,_,z,rfl⟩
 .exact absurd (ay e) (λq=>hz (aZ q))
theorem fV{c:Cx}:∀{pos:Pos} {env:Env} {ms:List ME} {es:List Expr},fX c.nm env.scope ms es=true->(backTo pos (starEach es env)).any (·.1)=false
 |_,_,[],es,h=>by obtain rfl:=jl _ _ h;rfl
 |pos,env,m::ms,es,h=>by
  obtain⟨x,xs,rfl,h1,h2⟩:=fK _ _ h;rw[ez (gP _ _ _ _ h1)];show(false||(backTo pos (starEach xs env)).any (·.1))=false;rw[fV h2];rfl
theorem gp{M:Model}{nm:Nat->Str}{f:Value}{ms:List ME}{es:List Expr}{Q:Args->Shared->Prop}(h:fX nm env.scope ms es)
  (q:wpAny M A (spliced (backTo pos (starEach es env))) (λvs s'=>Q ⟨vs,[]⟩ s') E s):wpAny M A (evalArgs f true (backTo pos (starEach es env)) []) Q E s:=by
 cases ms with
 |nil=>
  obtain rfl:=jl _ _ h;unfold evalArgs;show wpAny M A (spliced [] >>= _) Q E s;refine aa (aK q (λvs s' h'=>?_) λI I x=>x);refine aU ?_;exact aa (aE (aa (aE (aE h'))))
 |cons m ms=>
  obtain⟨x,xs,rfl,h1,h2⟩:=fK _ _ h;rw[ez (gP _ _ _ _ h1)] at q ⊢;exact cu q
def QK(c:Cx)(k n:Nat)(as:List V)(os:List O)(v:V)(H':List O):Prop:=
  ∀(A:Around) (s:Shared) (ρ:List Addr) (xs:List Value) (Q E:Value->Shared->Prop),ee A n->c.R ρ os s.heap->e9 c ρ->dy ρ s.heap as xs->
   (∀ρ' s' z,c.Rs ρ os s ρ' H' s'->dH ρ' s'.heap v z->Q z s')->wpAny c.M A (call (me k) xs) Q E s
theorem Hg{k n:Nat}{as:List V}:oP (Dz c.P k as st) (K0 st λv H'=>(k=0\/k=1\/k=4)/\QK c k n as st.os v H'):=by
 match k with
 |0=>
  refine IZ λx e=>KC.imp (yp (n:=n)) λv T=>⟨.inl rfl,λA s ρ xs Q E rm R ad vs q=>?_⟩
  subst e;obtain⟨y,rfl,vx⟩:=vs.one;exact T A s ρ y Q E rm R ad vx (q ρ)
 |1=>
  refine zo λx as e=>IZ λt e2=>KC.imp (FV (c:=c)) λv T=>⟨.inr (.inl rfl),λA s ρ xs Q E rm R ad vs q=>?_⟩
  subst e2;subst e;obtain⟨x,_,rfl,vx,vs⟩:=vs;obtain⟨y,rfl,vy⟩:=dy.one vs;exact T A s ρ x y Q E R vx vy (q ρ)
 |4=>
  refine IZ λx e=>Km λvs e2 hc=>⟨(i5 hc).1,.inr (.inr rfl),λA s ρ xs Q E rm R ad va q=>?_⟩
  subst e2;subst e;obtain⟨y,rfl,t,z',rfl,⟨o,ho,hcl,n,hd⟩,r⟩:=va.one;refine call_list_seq (hsz:=by rw[aI,r.length];exact aZ (aH (i5 hc).2 dv)) t (.inr rfl) ho hcl hd λh' c' hk hD=>?_;rw[oA] at q;obtain⟨r1,r2⟩:=eR.newL R hk hD r (y:=true);exact q _ _ _ r1 r2
 |2=>exact N4
 |3=>exact N4
 |_+5=>exact N4
theorem wE{M:Model}{k:Nat}{first:List Value}{args:List (Bool×Sem Value)}{Q:Value->Shared->Prop}(hplain:args.any (·.1)=false)(hk:k=0\/k=1\/k=4)
  (h:wpAny M A (evalArgs (me k) true args []) (λa s₁=>wpAny M A (call (me k) (first++a.pos) a.kw) Q E s₁) E s):wpAny M A (callWith pos (me k) first args []) Q E s:=by
 rcases hk with rfl | rfl | rfl
 .exact callWith_builtin hplain h
 .exact callWith_builtin hplain h
 .exact cE hplain h
theorem xF(C:Addr)(xs:List Value):Code.weight (.builtin "type.__call__" ⟨.ref C::xs,[]⟩)=1:=rfl
end
nonrec theorem yc{c:Cx}{C:Addr}{init:Nat}{as:List V}{st C':St}{n:Nat}{f:Nat->List V->St->Option (V×St)}(X:c.Ok)(IH:SC c n f)(hC:c.P.cls C=some init)(h:f init (.obj st.os.length::as) ⟨st.os++[.inst C []],st.ch,st.cs⟩=some (.none,C'))(hc:All C'.cs):All st.cs/\
  ∀(A:Around) (s:Shared) (ρ:List Addr) (xs:List Value) (Q E:Value->Shared->Prop),ee A (n+1+c.P.room)->c.R ρ st.os s.heap->e9 c ρ->dy ρ s.heap as xs->
   (∀ρ' s' z,c.Rs ρ st.os s ρ' C'.os s'->dH ρ' s'.heap (.obj st.os.length) z->Q z s')->
   codeAny c.M A (.call (.ref C) ⟨xs,[]⟩) (λr s'=>match r with | .ok (.ret v)=>Q v s' | .ok _=>False | .error e=>E e s') s:=by
 obtain⟨k1,k0,k2⟩:=IH _ _ _ _ _ h hc;refine⟨k1,λA s ρ xs Q E rm R ad vs q=>?_⟩;obtain⟨h1,h2,_⟩:=X.cls C init hC;obtain⟨m1,m2⟩:=oW h2;obtain⟨c1,c2,c3,c4,c5,c6⟩:=ju h1;have XI:=X.In R;obtain⟨hh,g,d,t,os⟩:=s;refine make_core (makes_of XI c6) (looks_findIn XI m1) (λself=>bind_fn XI self m2) (.inl rfl) ?_;have kk:∀b o,hh.get? b=some o->((hh.push emptyDict).push (instObj C hh.objs.size)).get? b=some o:=λb o e=>ae _ (ae _ e);have e1:((hh.push emptyDict).push (instObj C hh.objs.size)).get? (hh.objs.size+1)=some (instObj C hh.objs.size):=by
  have:=aB (hh.push emptyDict) (o:=instObj C hh.objs.size) rfl
  rwa [bB] at this
 have e2:((hh.push emptyDict).push (instObj C hh.objs.size)).get? hh.objs.size=some emptyDict:=ae _ (aB _ rfl);have none1:hh.get? (hh.objs.size+1)=none:=by
  cases e:hh.get? (hh.objs.size+1) with
  |none=>rfl
  |some o=>exact absurd (ay e) (by exact λz=>bD _ (Nat.lt_of_succ_lt z))
 have none0:hh.get? hh.objs.size=none:=fA ⟨hh,g,d,t,os⟩;have r0:c.Rs ρ st.os ⟨hh,g,d,t,os⟩ (ρ++[hh.objs.size+1]) (st.os++[.inst C []]) ⟨(hh.push emptyDict).push (instObj C hh.objs.size),g,d,t,os⟩:=by
  refine eR.pushC (o:=.inst C []) R kk (λx m=>?_) ⟨[],0,Nat.succ_pos _,e1,e2,rfl⟩ rfl rfl (by rw[bB,bB];exact aG (au _));rcases aD.mp m with rfl | m
  .exact none1
  .cases aj.mp m;exact none0
 have z:nth (ρ++[hh.objs.size+1]) st.os.length=some (hh.objs.size+1):=by rw[<-R.len];exact gr _ _
 have vo:dH (ρ++[hh.objs.size+1]) ((hh.push emptyDict).push (instObj C hh.objs.size)) (.obj st.os.length) (.ref (hh.objs.size+1)):=⟨_,by rw[<-dP];exact z,rfl⟩
 refine codeAny_mono (k2 _ (.ref (hh.objs.size+1)::xs) _ _ (λv s'=>v= .none/\Q (.ref (hh.objs.size+1)) s') E ⟨?_,?_,rm.handled⟩ r0.rel (eB.trans ad r0.grow) (.cons vo (r0.vs R vs)) λρ' s' y r v=>?_) λr s' z=>?_
 .show A.depth+Code.weight _+(n+c.P.room)<recursionLimit
  rw[xF];have:=rm.depth;omega
 .show A.units+1+8*(n+c.P.room)<cLine
  have:=rm.units;omega
 .refine⟨v,q ρ' s' _ (r0.trans r) (r.v r0.rel vo)⟩
 .rcases r with e | (v | _ | _ | _)<;>exact z
def QV(c:Cx)(n:Nat)(g:V)(as:List V)(os:List O)(v:V)(H':List O):Prop:=
  ∀(A:Around) (env:Env) (pos:Pos) (ms:List ME) (es:List Expr) (s:Shared) (gv:Value) (Q E:Value->Shared->Prop),(ρ:List Addr)->ee A (n+1+c.P.room)->dH ρ s.heap g gv->fX c.nm env.scope ms es->
   wpAny c.M A (spliced (backTo pos (starEach es env))) (λxs s'=>∃ρ',c.R ρ' os s'.heap/\e9 c ρ'/\dy ρ' s'.heap as xs/\∀ρ'' s'' z,c.Rs ρ' os s' ρ'' H' s''->dH ρ'' s''.heap v z->Q z s'') E s->
   wpAny c.M A (callWith pos gv [] (backTo pos (starEach es env)) []) Q E s
nonrec theorem Jk{c:Cx}{as:List V}{st:St}{ih:Ev}{n:Nat}(X:c.Ok){g:V}(IH:SC c n ih.c):oP (HQ c.P ih g as st) (K0 st (QV c n g as st.os)):=by
 cases g with
 |bi k=>
  refine K0.imp (Hg (n:=n)) λv H' T A env pos ms es s gv Q E ρ rm vg ck sp=>?_;obtain rfl:=vg;refine wE (fV ck) T.1 (gp ck (aK sp (λxs s' hx=>?_) λI I e=>e));obtain⟨ρ',R,ad,vs,q⟩:=hx;exact T.2 A s' ρ' xs Q E (rm.less (by omega)) R ad vs q
 |val x=>cases x with
  |ref a=>
   have go:∀{v H'},keepIn c.K (.ref a)=true->(∀(A:Around) (s:Shared) (ρ:List Addr) (xs:List Value) (Q E:Value->Shared->Prop),ee A (n+1+c.P.room)->c.R ρ st.os s.heap->e9 c ρ->dy ρ s.heap as xs->
     (∀ρ' s' z,c.Rs ρ st.os s ρ' H' s'->dH ρ' s'.heap v z->Q z s')->codeAny c.M A (.call (.ref a) ⟨xs,[]⟩) (λr s'=>match r with | .ok (.ret v)=>Q v s' | .ok _=>False | .error e=>E e s') s)->QV c n (.val (.ref a)) as st.os v H':=
    λk h A env pos ms es s gv Q E ρ rm vg ck sp=>by
     obtain⟨rfl,_⟩:=vg;refine callWith_of (P:=λh=>c.K.In h) (by rw[fV ck];rfl) (keeps_K k) (gp ck (aK sp (λxs s' hx=>?_) λI I e=>e));obtain⟨ρ',R,ad,vs,q⟩:=hx;exact⟨X.In R,cR (h A s' ρ' xs Q E rm R ad vs q)⟩
   refine LN (λinit hC=>LI (P:=λv st1=>ih.c init (.obj st.os.length::as) ⟨st.os++[.inst a []],st.ch,st.cs⟩=some (v,st1)) (oP.into λI I e=>e) λv st1 e=>?_) (λI=>oP.into λv C' e hc=>?_)
   .cases v with
    |none=>
     exact λhc=>⟨(IH _ _ _ _ _ e hc).1,go (X.cls _ _ hC).2.2 (yc X IH hC e hc).2⟩
    |_=>exact N4
   .obtain⟨k1,k0,k2⟩:=IH _ _ _ _ _ e hc
    exact⟨k1,go k0 λA s ρ xs Q E rm R ad vs q=>k2 A xs s ρ Q E (rm.less (by omega)) R ad vs q⟩
  |_=>exact N4
 |_=>exact N4
theorem sY:∀{nm:Nat->Str} {sc:Scope} {env:Env} {pos:Pos} {ms:List ME} {es:List Expr},fX nm sc ms es=true->(backTo pos (starEach es env)).all (λx=> !x.1)=true
 |_,_,_,_,[],es,h=>by obtain rfl:=jl _ _ h;rfl
 |nm,sc,env,pos,m::ms,es,h=>by
  obtain⟨x,xs,rfl,h1,h2⟩:=fK _ _ h;rw[ez (gP _ _ _ _ h1)];show(true&&(backTo pos (starEach xs env)).all (λx=> !x.1))=true;rw[sY (pos:=pos) (env:=env) h2];rfl
section
variable{A:Around} {M':Bool}
theorem uf{prog:Program}{w:World}{E:Value->Shared->Prop}{s:Shared}{env:Env}{nm:Nat->Str}{sc:Scope}{ms:List ME}{o:Expr}{name:Str}{apos pos:Pos}{args:List Expr}{Q:Value->Shared->Prop}
  (hb:j6 o) (ck:fX nm sc ms args) (few:args.length<30) (hline:(apos.endLine==pos.line)=true)
  (h:wpAny (model prog w) A (eval o env) (λov s₁=>∀pl,wpAny (model prog w) A (getMethod ov name pl) (λr s₂=>wpAny (model prog w) A (callWith pos r.1 r.2 (backTo pos (starEach args env)) []) Q E s₂) E s₁) E s):
  wpAny (model prog w) A (eval (.Call (.Attribute o name apos) args [] pos) env) Q E s:=by
 rw[arm_eval_Call,hO hb];refine aa (aK h (λov s₁ h₁=>?_) λI I e=>e);refine aa (ba ?_);have hform:methodCallForm (args.length+([]:List Keyword).length) (backTo pos (starEach args env)) (backToKw pos (keywordEach [] env))=true:=by
  have e1:=sY (env:=env) (pos:=pos) ck;unfold methodCallForm;rw[e1,arm_keywordEach_nil];exact av (show args.length+0+0<30 by omega)
 have hpos:methodCallPos true o env apos pos=pure pos:=by unfold methodCallPos;simp [hline]
 unfold methodCall;rw[hform];refine aa (aU (aK (h₁ _) (λr s₂ h₂=>?_) λI I e=>e));exact aa (bV hpos h₂)
theorem iQ{n k:Nat}(r:ee A (n+1+k)):ee A (n+k):=r.less (by omega)
def BC(M':Bool):BoolOp:=if M'=true then .And else .Or
theorem qF{M:Model}{E:Value->Shared->Prop}{s:Shared}{pos:Pos}{x y:Sem Value}{u':List (Sem Value)}{Q:Value->Shared->Prop}
  (h:wpAny M A x (λv s₁=>∃b,v= .bool b/\if Gs M' b=true then wpAny M A (boolOp pos (BC M') (y::u')) Q E s₁ else Q v s₁) E s):wpAny M A (boolOp pos (BC M') (x::y::u')) Q E s:=by
 refine aa (aK h (λv s₁ h₁=>?_) λI I e=>e);obtain⟨b,rfl,h₁⟩:=h₁;refine aa (ba (aa (aU (cz ?_))));cases M'<;>cases b<;>first | exact aE h₁ | exact h₁
def PB(c:Cx)(n:Nat)(M':Bool)(ms:List ME)(fi:Nat)(os:List O)(v:V)(H':List O):Prop:=
  ∀(A:Around) (env:Env) (pos:Pos) (es:List Expr) (s:Shared) (ρ:List Addr) (Q E:Value->Shared->Prop),ee A (n+c.P.room)->dE env fi ρ->fX c.nm env.scope ms es->c.R ρ os s.heap->e9 c ρ->
   (∀ρ' s' y,c.Rs ρ os s ρ' H' s'->dH ρ' s'.heap v y->Q y s')->wpAny c.M A (boolOp pos (BC M') (evalEach es env)) Q E s
theorem AH{c:Cx}{n:Nat}{fi:Nat}{e:ME->Nat->St->Option (V×St)}(H:SE c n e)(M':Bool):∀(ms:List ME) (st:St),oP (Mw e fi M' ms st) (K0 st (PB c n M' ms fi st.os))
 |[],_=>trivial
 |[m],st=>K0.imp (H.o m fi st) λv H' k2 A env pos es s ρ Q E rm en ck R ad q=>by
  obtain⟨x,xs,rfl,c1,c2⟩:=fK _ _ ck;obtain rfl:=jl _ _ c2;exact k2 A env x s ρ Q E rm en c1 R ad q
 |m::m2::ms,st=>sq (H.o m fi st) λv st1=>Hv λb e0=>yF (λeb=>K0.imp (AH H M' (m2::ms) st1) λv' H' j2 k2 A env pos es s ρ Q E rm en ck R ad q=>by
   subst e0;obtain⟨x,xs,rfl,c1,c2⟩:=fK _ _ ck;have c2':=c2;obtain⟨x2,xs,rfl,_,_⟩:=fK _ _ c2';exact qF (k2 A env x s ρ _ _ rm en c1 R ad λρ' s' y r vy=>⟨b,vy,by rw[if_pos eb];exact j2 A env pos _ s' ρ' Q E rm (en.grow r.grow) c2 r.rel (eB.trans ad r.grow) λρ2 s2 y2 r2 v2=>q ρ2 s2 y2 (r.trans r2) v2⟩))
  λeb=>og λk2 A env pos es s ρ Q E rm en ck R ad q=>by
   subst e0;obtain⟨x,xs,rfl,c1,c2⟩:=fK _ _ ck;obtain⟨x2,xs,rfl,c2,c3⟩:=fK _ _ c2;exact qF (k2 A env x s ρ _ _ rm en c1 R ad λρ' s' y r vy=>⟨b,vy,by rw[if_neg (by rw[eb];exact b8)];exact q ρ' s' y r vy⟩)
def Nf(c:Cx)(n:Nat)(M':Bool)(ms:List ME)(fi:Nat)(os:List O)(b:Bool)(H':List O):Prop:=
  ∀(A:Around) (env:Env) (es:List Expr) (s:Shared) (ρ:List Addr) (Q:Bool->Shared->Prop) (E:Value->Shared->Prop),ee A (n+c.P.room)->dE env fi ρ->fX c.nm env.scope ms es->c.R ρ os s.heap->e9 c ρ->
   (∀ρ' s',c.Rs ρ os s ρ' H' s'->Q b s')->wpAny c.M A (allTrue (BC M') es env) Q E s
theorem oH{env:Env}{M:Model}{E:Value->Shared->Prop}{s:Shared}{x:Expr}{xs:List Expr}{Q:Bool->Shared->Prop}
  (h:wpAny M A (PySem.isTrue x env (eval x env)) (λb s₁=>if Gs M' b=true then wpAny M A (allTrue (BC M') xs env) Q E s₁ else Q b s₁) E s):wpAny M A (allTrue (BC M') (x::xs) env) Q E s:=by
 cases M' with
 |true=>exact wpAny_allTrue_And_cons (aK h (λb s₁ h₁=>by cases b<;>exact h₁) λI I e=>e)
 |false=>exact bY (aK h (λb s₁ h₁=>by cases b<;>exact h₁) λI I e=>e)
theorem wg{c:Cx}{n:Nat}{fi:Nat}{t:ME->Nat->St->Option (Bool×St)}(H:ST c n t)(M':Bool):∀(ms:List ME) (st:St),oP (LS t fi M' ms st) (K0 st (Nf c n M' ms fi st.os))
 |[],st=>og λA env es s ρ Q E rm en ck R ad q=>by
  obtain rfl:=jl _ _ ck;cases M' with
  |true=>exact wpAny_allTrue_And_nil (q ρ s (.refl R))
  |false=>exact wpAny_allTrue_Or_nil (q ρ s (.refl R))
 |m::ms,st=>sq (H.o m fi st) λb st1=>yF (λeb=>K0.imp (wg H M' ms st1) λv' H' j2 k2 A env es s ρ Q E rm en ck R ad q=>by
   obtain⟨x,xs,rfl,c1,c2⟩:=fK _ _ ck;exact oH (k2 A env x s ρ _ _ rm en c1 R ad λρ' s' r=>by rw[if_pos eb];exact j2 A env _ s' ρ' Q E rm (en.grow r.grow) c2 r.rel (eB.trans ad r.grow) λρ2 s2 r2=>q ρ2 s2 (r.trans r2)))
  λeb=>og λk2 A env es s ρ Q E rm en ck R ad q=>by
   obtain⟨x,xs,rfl,c1,c2⟩:=fK _ _ ck;exact oH (k2 A env x s ρ _ _ rm en c1 R ad λρ' s' r=>by rw[if_neg (by rw[eb];exact b8)];exact q ρ' s' r)
def PO(c:Cx)(n:Nat)(m:Option ME)(fi:Nat)(os:List O)(v:Option V)(H':List O):Prop:=
  ∀(A:Around) (env:Env) (x:Option Expr) (s:Shared) (ρ:List Addr) (Q E:Value->Shared->Prop),ee A (n+c.P.room)->dE env fi ρ->vI c.nm env.scope m x->c.R ρ os s.heap->e9 c ρ->
   (∀ρ' s' y,c.Rs ρ os s ρ' H' s'->(match(generalizing:=false) v with | none=>y= .none | some v=>dH ρ' s'.heap v y)->Q y s')->wpAny c.M A (evalPart x env) Q E s
theorem Aq{c:Cx}{n:Nat}{fi:Nat}{e:ME->Nat->St->Option (V×St)}(H:SE c n e){m:Option ME}{st:St}:oP (L5 e fi m st) (K0 st (PO c n m fi st.os)):=by
 cases m with
 |none=>
  refine og λA env x s ρ Q E rm en ck R ad q=>?_;obtain rfl:=uu _ _ ck;exact aE (q ρ s _ (.refl R) rfl)
 |some m=>
  refine sq (H.o m fi st) λv st1=>og λk2 A env x s ρ Q E rm en ck R ad q=>?_;obtain⟨y,rfl,c1⟩:=pV _ _ ck;exact k2 A env y s ρ Q E rm en c1 R ad q
end
theorem wM{ρ:List Addr}{h:Heap}{v:Option V}{o:Option Int}{y:Bool}{x:Value}(r:match(generalizing:=false) v with | none=>x= .none | some v=>dH ρ h v x)(e:p8 v=some (o,y)):rt o x:=by
 rcases yl e with⟨rfl,rfl⟩ | ⟨i,rfl,rfl⟩
 .exact r
 .obtain⟨t,rfl⟩:=r
  exact⟨t,rfl⟩
theorem BM{nm:Nat->Str}{P:PW}{ρ:List Addr}{h:Heap}{a:Addr}{o:O}(e:Ii o)(r:j5 nm P ρ h a o):∃z' m,h.get? a=some (fw z' m):=by
 cases o with
 |list y xs=>obtain⟨z',m,e,_⟩:=r;exact⟨z',m,e⟩
 |stk top u'=>obtain⟨z',m,e,_⟩:=r;exact⟨_,m,e⟩
 |_=>cases e
theorem Af(k:Nat):Slot "list" (yG k) (Fo k)/\typeOf (.builtin (Fo k))=pure (.type "method_descriptor"):=by
 match k with
 |0=>exact⟨slot_list_append,type_list_append⟩
 |1=>exact⟨PySem.F.slot_list_pop,PySem.F.type_list_pop⟩
 |2=>exact⟨PySem.F.slot_list_extend,PySem.F.type_list_extend⟩
 |k+3=>exact⟨PySem.F.slot_list_reverse,PySem.F.type_list_reverse⟩
theorem xx{vs:List V}{ys:List Value}{ρ:List Addr}{h:Heap}(e:Nat.blt vs.length 1000)(r:dy ρ h vs ys):ys.length<=sizeLine:=by
 rw[r.length];exact aZ (aH (aV e) (ax () dv))
def LP(c:Cx)(n:Nat)(m:ME)(fi:Nat)(os:List O)(q:Nat×List V)(os2:List O):Prop:=
 ∀(A:Around) (env:Env) (x:Expr) (s:Shared) (ρ:List Addr) (Q E:Value->Shared->Prop),ee A (n+c.P.room)->dE env fi ρ->dO c.nm env.scope m x->c.R ρ os s.heap->e9 c ρ->keepIn c.K (.ref q.1)->
  (∀ρ2 s2 ys,c.Rs ρ os s ρ2 os2 s2->dy ρ2 s2.heap q.2 ys->codeAny c.M A (.call (.ref q.1) ⟨ys,[]⟩) (λr s'=>match r with | .ok (.ret v)=>Q v s' | .ok _=>False | .error e=>E e s') s2)->wpAny c.M A (eval x env) Q E s
nonrec theorem D4{c:Cx}{n:Nat}{e:ME->Nat->St->Option (V×St)}{fi:Nat}{o:ME}{nn:Nm}{as:List ME}{st:St}(X:c.Ok)(He:SE c n e):oP (EQ c.P e fi o nn as st) (K0 st (LP c n (.meth o nn as) fi st.os)):=by
 exact(sq (He.o o fi st) λv st1=>I7 sN λi ch cs=>JF λC fs e3=>LN (λI I=>trivial) (λe4=>qw λf e5=>sq (j7 He as _) λvs st2=>og λk2 M l2 A env x s ρ Q E rm en ck R ad kf h=>by
  obtain⟨o',ap,as',p,rfl,hs,hl,few,c1,c2⟩:=wT _ _ ck;refine uf hs c2 few hl (l2 A env o' s ρ _ _ rm en c1 R ad λρ1 s1 y1 r1 v1 pl=>?_);obtain⟨a,ha,rfl⟩:=M ρ1 s1.heap y1 (eB.trans ad r1.grow) v1;obtain⟨es,k,h0,h1,h2,fr⟩:=r1.rel.at ha e3;obtain⟨m1,m2⟩:=X.meth _ _ _ e5;obtain⟨c1,c2',c3,c4,c5,c6⟩:=ju m1;obtain⟨m3,m4⟩:=oW m2;refine method_fn (X.In r1.rel) (od:=some (dictOf es k)) ⟨h1,rfl,rfl,h2⟩ c1 c2' m3 m4 (by show(lookIn _ _).map _=_;rw[lookIn_dict,fr.getL_none X.inj e4];rfl) ?_;refine callWith_of (P:=λh=>c.K.In h) (by rw[fV c2];rfl) (keeps_K kf) (gp c2 (k2 A env p as' s1 ρ1 _ _ rm (en.grow r1.grow) c2 r1.rel (eB.trans ad r1.grow) λρ2 s2 ys r2 v2=>?_));exact⟨X.In r2.rel,cR (h ρ2 s2 (.ref a::ys) (r1.trans r2) (.cons ⟨a,by rw[<-dP];exact r2.grow _ _ ha,rfl⟩ v2))⟩))
nonrec theorem Hj{c:Cx}{ih:Ev}{n:Nat}(X:c.Ok)(He:SE c n ih.e)(Ht:ST c n ih.t)(Hc:SC c n ih.c):SE c (n+1) (H9 c.P ih):=by
 exact(SE.in λm fi st=>by
 cases m with
 |oth=>exact N4
 |cst k=>
  have go:∀{v},(∀(A:Around) (env:Env) (x:Expr) (s:Shared) (Q E:Value->Shared->Prop),dO c.nm env.scope (.cst k) x=true->(∀t y,(∀ρ,dH ρ s.heap v y)->Q y {s with toks:=t})->wpAny c.M A (eval x env) Q E s)->oP (some (v,st)) (K0 st (PE c (n+1) (.cst k) fi st.os)):=
   λh=>og λA env x s ρ Q E rm en ck R ad q=>h A env x s Q E ck λt y v=>q ρ _ y (.more0 R (λI I e=>e) rfl rfl) (v ρ)
  cases k with
  |none=>
   refine go λA env x s Q E ck q=>?_;obtain⟨k,p,rfl⟩:=re _ _ ck;exact wpAny_Constant_none (q s.toks _ λI=>rfl)
  |bool b=>
   refine go λA env x s Q E ck q=>?_;obtain⟨k,p,rfl⟩:=re _ _ ck;exact wpAny_Constant_bool (q s.toks _ λI=>rfl)
  |int i=>
   refine go λA env x s Q E ck q=>?_;obtain⟨k,p,rfl⟩:=re _ _ ck;exact aR (q _ _ λI=>⟨_,rfl⟩)
  |str s=>
   refine go λA env x s Q E ck q=>?_;obtain⟨k,p,rfl⟩:=re _ _ ck;exact cH (q _ _ λI=>⟨_,rfl⟩)
  |_=>exact N4
 |loc nn=>
  refine qw λv e=>og λA env x s ρ Q E rm en ck R ad q=>?_;obtain⟨p,rfl,hl,hd⟩:=u3 _ _ ck;exact wpAny_Name (pX e en hl R λy vy=>q ρ s y (.refl R) vy) hd
 |glb nn=>
  refine qw λv e=>og λA env x s ρ Q E rm en ck R ad q=>?_;obtain⟨p,rfl,hl,hd⟩:=uR _ _ ck;exact g9 X e en hl hd R λy vy=>q ρ s y (.refl R) vy
 |tup es=>
  refine sq (j7 He es st) λvs st1=>yF (λe0=>og λk2 A env x s ρ Q E rm en ck R ad q=>?_) λI=>trivial;obtain⟨es',k,p,rfl,c1⟩:=HA _ _ ck;exact cN (k2 A env p es' s ρ _ _ (iQ rm) en c1 R ad λρ' s' ys r vs'=>⟨xx e0 vs',q ρ' _ _ (r.trans (.more0 r.rel (λb o e=>ae _ e) rfl rfl)) ⟨_,ys,rfl,⟨_,aB _ rfl,rfl,0,rfl⟩,vs'.up (.refl _) (.of_keeps λb o e=>ae _ e)⟩⟩)
 |lst es=>
  refine sq (j7 He es st) λvs st1=>yF (λe0 hc=>⟨hc,λk2 A env x s ρ Q E rm en ck R ad q=>?_⟩) λI=>trivial;obtain⟨es',p,rfl,c1⟩:=G9 _ _ ck;refine wpAny_List_spliced (k2 A env p es' s ρ _ _ (iQ rm) en c1 R ad λρ' s' ys r vs'=>?_);obtain⟨r1,r2⟩:=eR.newL (h':=s'.heap.push {cls:=.type "list",data:=.seq ys.toArray}) (y:=true) r.rel (λb o e=>ae _ e) (aB _ rfl) vs';exact⟨xx e0 vs',q _ _ _ (r.trans r1) r2⟩
 |dct=>
  refine λhc=>⟨hc,λA env x s ρ Q E rm en ck R ad q=>?_⟩
  obtain⟨p,rfl⟩:=Hb _ _ ck;exact wpAny_Dict_empty (q _ _ _ (eR.pushC (o:=.dict []) R (λb o e=>ae _ e) (λx m=>by cases aj.mp m;exact fA s) ⟨[],Heap.DictOf.new (knd:=PySem.strKind c.prog c.w) s.heap,rfl⟩ rfl rfl (by rw[bB];exact au _)) ⟨_,by rw[<-dP,<-R.len];exact gr _ _,rfl⟩)
 |bin op l r=>
  refine sq (He.o l fi st) λa st1=>sq (He.o r fi st1) λb st2=>K0.imp (rL (c:=c) (n:=n)) λv os j3 k2 l2 A env x s ρ Q E rm en ck R ad q=>?_;obtain⟨l',r',p,rfl,c1,c2⟩:=F8 _ _ ck;refine cQ (l2 A env l' s ρ _ _ (iQ rm) en c1 R ad λρ1 s1 y1 r1 v1=>k2 A env r' s1 ρ1 _ _ (iQ rm) (en.grow r1.grow) c2 r1.rel (eB.trans ad r1.grow) λρ2 s2 y2 r2 v2=>?_);exact j3 A s2 ρ2 y1 y2 Q E (rm.less (by omega)) r2.rel (r2.v r1.rel v1) v2 λρ3 s3 z r3 vz=>q ρ3 s3 z ((r1.trans r2).trans r3) vz
 |not x0=>
  refine sq (He.o x0 fi st) λv st1=>Hv λb e=>og λk2 A env x s ρ Q E rm en ck R ad q=>?_;subst e;obtain⟨x',p,rfl,c1⟩:=Au _ _ ck;refine wpAny_UnaryOp (k2 A env x' s ρ _ _ (iQ rm) en c1 R ad λρ1 s1 y1 r1 v1=>?_);obtain rfl:=v1;exact not_value (cz (q ρ1 s1 _ r1 rfl))
 |bop M' es=>
  refine K0.imp (AH He M' es st) λv os k2 A env x s ρ Q E rm en ck R ad q=>?_;obtain⟨es',p,rfl,c1⟩:=zY _ _ ck;rw[arm_eval_BoolOp];exact k2 A env p es' s ρ Q E (iQ rm) en c1 R ad q
 |cmp op l r=>
  refine sq (He.o l fi st) λa st1=>sq (He.o r fi st1) λb st2=>I7 (nV (c:=c) (n:=n)) λr ch cs=>og λj3 k2 l2 A env x s ρ Q E rm en ck R ad q=>?_;obtain⟨l',r',p,rfl,hb,c1,c2⟩:=Ac _ _ ck;refine wpAny_Compare1 (l2 A env l' s ρ _ _ (iQ rm) en c1 R ad λρ1 s1 y1 r1 v1=>k2 A env r' s1 ρ1 _ _ (iQ rm) (en.grow r1.grow) c2 r1.rel (eB.trans ad r1.grow) λρ2 s2 y2 r2 v2=>?_) hb;exact j3 A s2 ρ2 y1 y2 Q E (rm.less (by omega)) r2.rel (eB.trans ad (r1.grow.trans r2.grow)) (r2.v r1.rel v1) v2 (q ρ2 s2 _ (r1.trans r2) rfl)
 |ite t a b=>
  refine sq (Ht.o t fi st) λk st1=>?_;cases k with
  |true=>
   refine K0.imp (He.o a fi st1) λv os j2 k2 A env x s ρ Q E rm en ck R ad q=>?_;obtain⟨t',a',b',p,rfl,c1,c2,c3⟩:=rg _ _ ck;exact wpAny_IfExp (k2 A env t' s ρ _ _ (iQ rm) en c1 R ad λρ1 s1 r1=>j2 A env a' s1 ρ1 Q E (iQ rm) (en.grow r1.grow) c2 r1.rel (eB.trans ad r1.grow) λρ2 s2 y2 r2 v2=>q ρ2 s2 y2 (r1.trans r2) v2)
  |false=>
   refine K0.imp (He.o b fi st1) λv os j2 k2 A env x s ρ Q E rm en ck R ad q=>?_;obtain⟨t',a',b',p,rfl,c1,c2,c3⟩:=rg _ _ ck;exact wpAny_IfExp (k2 A env t' s ρ _ _ (iQ rm) en c1 R ad λρ1 s1 r1=>j2 A env b' s1 ρ1 Q E (iQ rm) (en.grow r1.grow) c3 r1.rel (eB.trans ad r1.grow) λρ2 s2 y2 r2 v2=>q ρ2 s2 y2 (r1.trans r2) v2)
 |attr o nn=>
  refine sq (He.o o fi st) λv st1=>KC.imp (vB X) λv' j3 k2 A env x s ρ Q E rm en ck R ad q=>?_;obtain⟨o',p,rfl,hs,c1⟩:=D7 _ _ ck;rw[arm_eval_Attribute,hO hs];refine aa (k2 A env o' s ρ _ _ (iQ rm) en c1 R ad λρ1 s1 y1 r1 v1=>?_);refine aa (ba (aa (aU (j3 A s1 ρ1 y1 true _ E r1.rel (eB.trans ad r1.grow) v1 λs2 z r2 vz=>?_))));exact aa (wpAny_letTemporaryGo (aE (q ρ1 s2 z (r1.trans r2) vz)))
 |item o i=>
  refine sq (He.o o fi st) λa st1=>sq (He.o i fi st1) λb st2=>KC.imp (qM (c:=c) (n:=n)) λv j3 k2 l2 A env x s ρ Q E rm en ck R ad q=>?_;obtain⟨o',i',p,rfl,hn,c1,c2⟩:=EK _ _ ck;refine Subscript_ (l2 A env o' s ρ _ _ (iQ rm) en c1 R ad λρ1 s1 y1 r1 v1=>k2 A env i' s1 ρ1 _ _ (iQ rm) (en.grow r1.grow) c2 r1.rel (eB.trans ad r1.grow) λρ2 s2 y2 r2 v2=>?_);exact j3 A s2 ρ2 y1 y2 o' i' Q E hn (rm.less (by omega)) r2.rel (eB.trans ad (r1.grow.trans r2.grow)) (r2.v r1.rel v1) v2 λs3 z r3 vz=>q ρ2 s3 z ((r1.trans r2).trans r3) vz
 |slice o lo hi=>
  refine sq (He.o o fi st) λa st1=>sq (Aq He) λl st2=>sq (Aq He) λu st3=>KC.imp (uN (c:=c) (n:=n)) λv T i2 k2 l2 A env x s ρ Q E rm en ck R ad q=>?_;obtain⟨lo',hi',y1,y2,f1,f2,j3⟩:=T;obtain⟨o',le,he,p,p2,rfl,c1,c2,c3⟩:=Bg _ _ ck;refine Subscript_ (l2 A env o' s ρ _ _ (iQ rm) en c1 R ad λρ1 s1 w1 r1 v1=>?_);refine wpAny_Slice (k2 A env le s1 ρ1 _ _ (iQ rm) (en.grow r1.grow) c2 r1.rel (eB.trans ad r1.grow) λρ2 s2 w2 r2 v2=>?_);refine i2 A env he s2 ρ2 _ _ (iQ rm) (en.grow (r1.grow.trans r2.grow)) c3 r2.rel (eB.trans ad (r1.grow.trans r2.grow)) λρ3 s3 w3 r3 v3=>?_;rw[evalPart_none];refine aE ?_;exact j3 A s3 ρ3 w1 w2 w3 o' p le he Q E (rm.less (by omega)) r3.rel (r3.v r2.rel (r2.v r1.rel v1)) (wM v2 f1) (wM v3 f2) λs4 z r4 vz=>q ρ3 s4 z (((r1.trans r2).trans r3).trans r4) vz
 |call f as=>
  refine sq (He.o f fi st) λg st1=>sq (j7 He as st1) λvs st2=>K0.imp (Jk X Hc) λv os j3 k2 l2 A env x s ρ Q E rm en ck R ad q=>?_;obtain⟨f',as',p,rfl,hn,c1,c2⟩:=mH _ _ ck;obtain⟨id,np,rfl⟩:∃id np,f'= .Name id np:=by
   cases f'<;>first | exact⟨_,_,rfl⟩ | cases hn
  refine bH (l2 A env _ s ρ _ _ (iQ rm) en c1 R ad λρ1 s1 y1 r1 v1=>?_);exact j3 A env p _ as' s1 y1 Q E ρ1 rm v1 c2 (k2 A env p as' s1 ρ1 _ _ (iQ rm) (en.grow r1.grow) c2 r1.rel (eB.trans ad r1.grow) λρ2 s2 ys r2 v2=>
   ⟨ρ2,r2.rel,eB.trans ad (r1.grow.trans r2.grow),v2,λρ3 s3 z r3 vz=>q ρ3 s3 z ((r1.trans r2).trans r3) vz⟩)
 |meth o nn as=>
  exact sq (D4 X He) λq st2=>(oP.into (K:=K0 st2 λv os=>LP c n (.meth o nn as) fi st.os q st2.os->PE c (n+1) (.meth o nn as) fi st.os v os) λv st3 h hc=>by
   obtain⟨j1,j0,j2⟩:=Hc _ _ _ _ _ h hc;exact⟨j1,λT A env x s ρ Q E rm en ck R ad q=>T A env x s ρ Q E (iQ rm) en ck R ad j0 λρ2 s2 ys r2 v2=>j2 A ys s2 ρ2 Q E (iQ rm) r2.rel (eB.trans ad r2.grow) v2 λρ3 s3 z r3 vz=>q ρ3 s3 z (r2.trans r3) vz⟩)
 |lmeth kk o as=>
  refine sq (He.o o fi st) λv st1=>I7 sN λi ch cs=>qw λcell e3=>yF (λe4=>sq (j7 He as _) λvs st3=>K0.imp (xg (c:=c) (n:=n)) λv' os j2 k2 M l2 A env x s ρ Q E rm en ck R ad q=>?_) λI=>trivial;obtain⟨o',ap,as',p,rfl,hs,hl,few,c1,c2⟩:=Br _ _ ck;refine uf hs c2 few hl (l2 A env o' s ρ _ _ (iQ rm) en c1 R ad λρ1 s1 y1 r1 v1 pl=>?_);obtain⟨a,ha,rfl⟩:=M ρ1 s1.heap y1 (eB.trans ad r1.grow) v1;obtain⟨z',m,ho⟩:=BM e4 (r1.rel.at ha e3);refine By ho (Af kk).1 (Af kk).2 ?_;refine callWith_builtin (fV c2) (gp c2 (k2 A env p as' s1 ρ1 _ _ (iQ rm) (en.grow r1.grow) c2 r1.rel (eB.trans ad r1.grow) λρ2 s2 ys r2 v2=>?_));exact j2 A s2 ρ2 a ys Q E (rm.less (by omega)) r2.rel (eB.trans ad (r1.grow.trans r2.grow)) (r2.grow _ _ ha) v2 λs3 z r3 vz=>q ρ2 s3 z ((r1.trans r2).trans r3) vz)
nonrec theorem FD{c:Cx}{ih:Ev}{n:Nat}(_:c.Ok)(He:SE c n ih.e)(Ht:ST c n ih.t):ST c (n+1) (H5 c.P ih):=by
 exact(ST.in λm fi st=>by
 have val:∀{m},oP (ob (ih.e m fi st) λv st=>IC v λb=>some (b,st)) (K0 st λb os=>∀(A:Around) (env:Env) (x:Expr) (s:Shared) (ρ:List Addr) (Q:Bool->Shared->Prop) (E:Value->Shared->Prop),ee A (n+1+c.P.room)->dE env fi ρ->dO c.nm env.scope m x->c.R ρ st.os s.heap->e9 c ρ->
   (∀ρ' s',c.Rs ρ st.os s ρ' os s'->Q b s')->wpAny c.M A (eval x env) (λv s'=>wpAny c.M A (truthy v) Q E s') E s):=λ{m}=>by
  refine sq (He.o m fi st) λv st1=>Hv λb e=>og λk2 A env x s ρ Q E rm en ck R ad q=>?_;subst e;refine k2 A env x s ρ _ _ (iQ rm) en ck R ad λρ1 s1 y1 r1 v1=>?_;obtain rfl:=v1;exact cz (q ρ1 s1 r1)
 cases m with
 |not x0=>
  refine sq (Ht.o x0 fi st) λb st1=>og λk2 A env x s ρ Q E rm en ck R ad q=>?_;obtain⟨x',p,rfl,c1⟩:=Au _ _ ck;exact wpAny_isTrue_Not (k2 A env x' s ρ _ _ (iQ rm) en c1 R ad q)
 |bop M' es=>
  refine K0.imp (wg Ht M' es st) λv os k2 A env x s ρ Q E rm en ck R ad q=>?_;obtain⟨es',p,rfl,c1⟩:=zY _ _ ck;exact wpAny_isTrue_BoolOp (k2 A env es' s ρ Q E (iQ rm) en c1 R ad q)
 |ite t a b=>
  refine sq (Ht.o t fi st) λk st1=>?_;cases k with
  |true=>
   refine K0.imp (Ht.o a fi st1) λv os j2 k2 A env x s ρ Q E rm en ck R ad q=>?_;obtain⟨t',a',b',p,rfl,c1,c2,c3⟩:=rg _ _ ck;rw[arm_isTrue_IfExp];exact aa (k2 A env t' s ρ _ _ (iQ rm) en c1 R ad λρ1 s1 r1=>j2 A env a' s1 ρ1 Q E (iQ rm) (en.grow r1.grow) c2 r1.rel (eB.trans ad r1.grow) λρ2 s2 r2=>q ρ2 s2 (r1.trans r2))
  |false=>
   refine K0.imp (Ht.o b fi st1) λv os j2 k2 A env x s ρ Q E rm en ck R ad q=>?_;obtain⟨t',a',b',p,rfl,c1,c2,c3⟩:=rg _ _ ck;rw[arm_isTrue_IfExp];exact aa (k2 A env t' s ρ _ _ (iQ rm) en c1 R ad λρ1 s1 r1=>j2 A env b' s1 ρ1 Q E (iQ rm) (en.grow r1.grow) c3 r1.rel (eB.trans ad r1.grow) λρ2 s2 r2=>q ρ2 s2 (r1.trans r2))
 |cmp op l r=>
  refine sq (He.o l fi st) λa st1=>sq (He.o r fi st1) λb st2=>KC.imp (nV (c:=c) (n:=n)) λr j3 k2 l2 A env x s ρ Q E rm en ck R ad q=>?_;obtain⟨l',r',p,rfl,hb,c1,c2⟩:=Ac _ _ ck;refine bZ (l2 A env l' s ρ _ _ (iQ rm) en c1 R ad λρ1 s1 y1 r1 v1=>k2 A env r' s1 ρ1 _ _ (iQ rm) (en.grow r1.grow) c2 r1.rel (eB.trans ad r1.grow) λρ2 s2 y2 r2 v2=>?_) hb;exact j3 A s2 ρ2 y1 y2 _ E (rm.less (by omega)) r2.rel (eB.trans ad (r1.grow.trans r2.grow)) (r2.v r1.rel v1) v2 (cz (q ρ2 s2 (r1.trans r2)))
 |loc nn=>
  refine qw λv e1=>Hv λb e=>og λA env x s ρ Q E rm en ck R ad q=>?_;subst e;obtain⟨p,rfl,hl,hd⟩:=u3 _ _ ck;refine wpAny_isTrue_value (wpAny_Name (pX e1 en hl R λy vy=>?_) hd);obtain rfl:=vy;exact cz (q ρ s (.refl R))
 |call f as=>
  refine K0.imp val λb os T A env x s ρ Q E rm en ck R ad q=>?_;have T:=T A env x s ρ Q E rm en ck R ad q;obtain⟨f',as',p,rfl,hn,c1,c2⟩:=mH _ _ ck;exact wpAny_isTrue_value T
 |meth o nn as=>
  refine K0.imp val λb os T A env x s ρ Q E rm en ck R ad q=>?_;have T:=T A env x s ρ Q E rm en ck R ad q;obtain⟨o',ap,as',p,rfl,hs,hl,few,c1,c2⟩:=wT _ _ ck;exact wpAny_isTrue_value T
 |_=>exact N4)
section
variable(nm:Nat->Str) (sc:Scope)
def ip(e:Expr):Bool:= !Nat.beq (de e).t 6&& !Nat.beq (de e).t 17
def rK(e:Expr):Bool:= !Nat.beq (de e).t 8
def ud:List Nm->List Expr->Bool
 |[],e=>e.isEmpty
 |n::ns,e=> !e.isEmpty&&(Nat.beq (de (ic e)).t 11&&sC nm sc n (de (ic e)).x)&&ud ns e.tail
def g0(ts:List Expr):List Str:=
 ts.filterMap λ
  | .Name id pos=>if sc.names.lookup id==some .local&&pos.line==(ts.head?.map (·.pos.line)).getD 0 then some id else none
  |_=>none
def uQ(vs:List Expr):Bool:=vs.any λ| .Starred .. =>true | _=>false
def nu(ns:List Nm)(ts vs:List Expr):Bool:=
 (ts.length==2||ts.length==3)&&vs.length==ts.length&&(!uQ vs)&&(g0 sc ts).length==ts.length&&(g0 sc ts).eraseDups.length==(g0 sc ts).length&&
  (!vs.all (foldedForSure 8))&&(!vs.all (constantsAlone 8))&&g0 sc ts==ns.map nm&&ns.all λn=>sc.names.lookup (nm n)==some .local
def BW(x:Stmt)(k:Nat):Bool:=Nat.beq (gf x).t 1&&Nat.beq (gf x).l.length 1&&Nat.beq (de (sG x)).t k
mutual
noncomputable def gI:MS->Stmt->Bool
 | .oth,_=>true
 | .expr e,x=>Nat.beq (gf x).t 5&&ip (sT x)&&dO nm sc e (sT x)
 | .asg n e,x=>BW x 11&&sC nm sc n (de (sG x)).x&&ip (sV x)&&dO nm sc e (sV x)
 | .asgA o n e,x=>BW x 2&&(de (sG x)).x==nm n&&ip (sV x)&&dO nm sc o (k1 (sG x))&&dO nm sc e (sV x)
 | .asgI o i e,x=>BW x 3&&kR (k2 (sG x))&&ip (sV x)&&dO nm sc o (k1 (sG x))&&dO nm sc i (k2 (sG x))&&dO nm sc e (sV x)
 | .asgT ns e,x=>BW x 8&&ud nm sc ns (kL (sG x))&&ip (sV x)&&rK (sV x)&&dO nm sc e (sV x)
 | .asgD ns es,x=>BW x 8&&Nat.beq (de (sV x)).t 8&&nu nm sc ns (kL (sG x)) (kL (sV x))&&fX nm sc es (kL (sV x))
 | .aug n op e,x=>Nat.beq (gf x).t 6&&(Nat.beq (de (sT x)).t 11&&sC nm sc n (de (sT x)).x)&&decide ((gf x).op=op)&&dO nm sc e (sV x)
 | .augA o n op e,x=>Nat.beq (gf x).t 6&&Nat.beq (de (sT x)).t 2&&(de (sT x)).x==nm n&&decide ((gf x).op=op)&&dO nm sc o (k1 (sT x))&&dO nm sc e (sV x)
 | .ret e,x=>Nat.beq (gf x).t 4&&vI nm sc e (gf x).o
 | .ite t a b,x=>Nat.beq (gf x).t 3&&dO nm sc t (sT x)&&iT a (sW x)&&iT b (sE x)
 | .while t b,x=>Nat.beq (gf x).t 7&&(sE x).isEmpty&&dO nm sc t (sT x)&&iT b (sW x)
 | .for n it b,x=>Nat.beq (gf x).t 2&&(sE x).isEmpty&&(Nat.beq (de (sT x)).t 11&&sC nm sc n (de (sT x)).x)&&dO nm sc it (sV x)&&iT b (sW x)
 | .brk,x=>Nat.beq (gf x).t 8
 | .cont,x=>Nat.beq (gf x).t 9
 | .pass,x=>Nat.beq (gf x).t 10
noncomputable def iT:List MS->List Stmt->Bool
 |[],x=>x.isEmpty
 |m::ms,x=> !x.isEmpty&&gI m (J4 x)&&iT ms x.tail
end
section
variable{x:Stmt} {n:Nm} {e:ME}
theorem s9{k:Nat}(h:BW x k):x= .Assign [My (sG x) (de (sG x)) k] (sV x) (sQ x):=
 have a:=cW h;have b:=cW a.1
 (atS b.1).trans (az (Stmt.Assign · (sV x) (sQ x)) ((pS default b.2).trans (az (·::[]) (mM a.2))))
theorem yZ{e:Expr}(h:(Nat.beq (de e).t 11&&sC nm sc n (de e).x)=true):e= .Name (nm n) (kQ e)/\sc.names.lookup (nm n)=some .local:=
 have a:=cW h;have b:=tv nm sc a.2
 ⟨uL a.1 b.1,b.2.1⟩
theorem xC(h:gI nm sc (.expr e) x):∃v p,x= .Expr v p/\ip v=true/\dO nm sc e v=true:=
 have a:=cW h;have b:=cW a.1
 ⟨_,_,atS b.1,b.2,a.2⟩
theorem vC(h:gI nm sc (.asg n e) x):∃p v p',x= .Assign [.Name (nm n) p] v p'/\sc.names.lookup (nm n)=some .local/\ip v=true/\dO nm sc e v=true:=
 have a:=cW h;have b:=cW a.1;have c:=cW b.1;have l:=tv nm sc c.2
 ⟨_,_,_,(s9 c.1).trans (az (λy=>Stmt.Assign [.Name y (kQ (sG x))] (sV x) (sQ x)) l.1),l.2.1,b.2,a.2⟩
theorem xp{o:ME}(h:gI nm sc (.asgA o n e) x):∃o' p v p',x= .Assign [.Attribute o' (nm n) p] v p'/\ip v=true/\dO nm sc o o'=true/\dO nm sc e v=true:=
 have a:=cW h;have b:=cW a.1;have c:=cW b.1;have d:=cW c.1
 ⟨_,_,_,_,(s9 d.1).trans (az (λy=>Stmt.Assign [.Attribute (k1 (sG x)) y (kQ (sG x))] (sV x) (sQ x)) (am.mp d.2)),c.2,b.2,a.2⟩
theorem Ec{o i:ME}(h:gI nm sc (.asgI o i e) x):∃o' i' p v p',x= .Assign [.Subscript o' i' p] v p'/\kR i'=true/\ip v=true/\dO nm sc o o'=true/\dO nm sc i i'=true/\dO nm sc e v=true:=
 have a:=cW h;have b:=cW a.1;have c:=cW b.1;have d:=cW c.1;have f:=cW d.1
 ⟨_,_,_,_,_,s9 f.1,f.2,d.2,c.2,b.2,a.2⟩
theorem sr{ns:List Nm}(h:gI nm sc (.asgT ns e) x):∃ts k p v p',x= .Assign [.Tuple ts k p] v p'/\ud nm sc ns ts=true/\ip v=true/\rK v=true/\dO nm sc e v=true:=
 have a:=cW h;have b:=cW a.1;have c:=cW b.1;have d:=cW c.1
 ⟨_,_,_,_,_,s9 d.1,d.2,c.2,b.2,a.2⟩
theorem Dw{ns:List Nm}{es:List ME}(h:gI nm sc (.asgD ns es) x):∃ts k p vs k' p' p'',x= .Assign [.Tuple ts k p] (.Tuple vs k' p') p''/\nu nm sc ns ts vs=true/\fX nm sc es vs=true:=
 have a:=cW h;have b:=cW a.1;have c:=cW b.1
 ⟨_,_,_,_,_,_,_,(s9 c.1).trans (az (Stmt.Assign _ · (sQ x)) (mM c.2)),b.2,a.2⟩
theorem GT{op:Operator}(h:gI nm sc (.aug n op e) x):∃p v p',x= .AugAssign (.Name (nm n) p) op v p'/\sc.names.lookup (nm n)=some .local/\dO nm sc e v=true:=
 have a:=cW h;have b:=cW a.1;have c:=cW b.1;have l:=yZ nm sc c.2
 ⟨_,_,_,(atS c.1).trans ((az (Stmt.AugAssign (sT x) · (sV x) (sQ x)) (aS b.2)).trans (az (Stmt.AugAssign · op (sV x) (sQ x)) l.1)),l.2,a.2⟩
theorem DC{op:Operator}{o:ME}(h:gI nm sc (.augA o n op e) x):∃o' p v p',x= .AugAssign (.Attribute o' (nm n) p) op v p'/\dO nm sc o o'=true/\dO nm sc e v=true:=
 have a:=cW h;have b:=cW a.1;have c:=cW b.1;have d:=cW c.1;have f:=cW d.1
 ⟨_,_,_,_,(atS f.1).trans ((az (Stmt.AugAssign (sT x) · (sV x) (sQ x)) (aS c.2)).trans (az (Stmt.AugAssign · op (sV x) (sQ x)) ((mM f.2).trans (az (Expr.Attribute (k1 (sT x)) · (kQ (sT x))) (am.mp d.2))))),b.2,a.2⟩
theorem vq{e:Option ME}(h:gI nm sc (.ret e) x):∃v p,x= .Return v p/\vI nm sc e v=true:=
 have a:=cW h
 ⟨_,_,atS a.1,a.2⟩
theorem pD{t:ME}{a b:List MS}(h:gI nm sc (.ite t a b) x):∃t' a' b' p,x= .If t' a' b' p/\dO nm sc t t'=true/\iT nm sc a a'=true/\iT nm sc b b'=true:=
 have a:=cW h;have b:=cW a.1;have c:=cW b.1
 ⟨_,_,_,_,atS c.1,c.2,b.2,a.2⟩
theorem Cj{t:ME}{b:List MS}(h:gI nm sc (.while t b) x):∃t' b' p,x= .While t' b' [] p/\dO nm sc t t'=true/\iT nm sc b b'=true:=
 have a:=cW h;have b:=cW a.1;have c:=cW b.1
 ⟨_,_,_,(atS c.1).trans (az (Stmt.While (sT x) (sW x) · (sQ x)) (iq c.2)),b.2,a.2⟩
theorem GK{it:ME}{b:List MS}(h:gI nm sc (.for n it b) x):∃p it' b' p',x= .For (.Name (nm n) p) it' b' [] p'/\sc.names.lookup (nm n)=some .local/\dO nm sc it it'=true/\iT nm sc b b'=true:=
 have a:=cW h;have b:=cW a.1;have c:=cW b.1;have d:=cW c.1;have l:=yZ nm sc c.2
 ⟨_,_,_,_,(atS d.1).trans ((az (Stmt.For (sT x) (sV x) (sW x) · (sQ x)) (iq d.2)).trans (az (Stmt.For · (sV x) (sW x) [] (sQ x)) l.1)),l.2,b.2,a.2⟩
theorem Ft(h:gI nm sc .brk x):∃p,x= .Break p:=⟨_,atS h⟩
theorem Em(h:gI nm sc .cont x):∃p,x= .Continue p:=⟨_,atS h⟩
theorem EX(h:gI nm sc .pass x):∃p,x= .Pass p:=⟨_,atS h⟩
theorem oU{x:List Stmt}(h:iT nm sc [] x):x=[]:=iq h
theorem hG{m:MS}{ms:List MS}{x:List Stmt}(h:iT nm sc (m::ms) x):∃y ys,x=y::ys/\gI nm sc m y=true/\iT nm sc ms ys=true:=
 have a:=cW h;have b:=cW a.1
 ⟨_,_,ry b.1,b.2,a.2⟩
end
end
theorem gA{v:Expr}(h:ip v)(t:Option Expr)(l:Nat)(env:Env):swapsWith v t l env=pure false:=by
 cases v<;>first | rfl | cases h
theorem ky{ts:List Expr}{k:Nat}{p:Pos}{v:Expr}(h:rK v)(env:Env):swappedStores [.Tuple ts k p] v env=pure none:=by
 cases v<;>first | rfl | cases h
nonrec theorem vR{nm:Nat->Str}{ns:List Nm}{ts vs:List Expr}{k k':Nat}{p p':Pos}{env:Env}(hk:env.scope.kind= .function)(h:nu nm env.scope ns ts vs):swappedStores [.Tuple ts k p] (.Tuple vs k' p') env=pure (some (ns.map nm)):=by
 unfold nu at h;obtain⟨h,h9⟩:=cW h;obtain⟨h,h8⟩:=cW h;obtain⟨h,h7⟩:=cW h;obtain⟨h,h6⟩:=cW h;obtain⟨h,h5⟩:=cW h;obtain⟨h,h4⟩:=cW h;obtain⟨h,h3⟩:=cW h;obtain⟨h1,h2⟩:=cW h;have bk:(env.blockKind != .function)=false:=by
  unfold Env.blockKind;rw[hk];rfl
 have e8:=am.mp h8;unfold swappedStores;have a1:(!(ts.length==2||ts.length==3)||vs.length != ts.length||env.blockKind != .function)=false:=by
  rw[h1,bk];simp only[bne,h2,Bool.not_true,Bool.or_false]
 have a3:uQ vs=false:=by simpa using h3
 have a4:((g0 env.scope ts).length != ts.length||(g0 env.scope ts).eraseDups.length != (g0 env.scope ts).length)=false:=by
  simp only[bne,h4,h5,Bool.not_true,Bool.or_false]
 have a6:vs.all (foldedForSure 8)=false:=by simpa using h6
 have a7:vs.all (constantsAlone 8)=false:=by simpa using h7
 dsimp only;have no:∀{b:Bool},b=false->¬b=true:=λe=>by rw[e];exact b8
 refine(if_neg (no a1)).trans ?_;refine(if_neg (no a3)).trans ?_;refine(if_neg (no a4)).trans ?_;refine(if_neg (no a6)).trans ?_;refine(if_neg (no a7)).trans ?_;exact az (λz=>pure (some z)) e8
def qR(ρ:List Addr)(h:Heap):Fl->Flow->Prop
 | .next,f=>f= .next
 | .brk,f=>f= .brk
 | .cont,f=>f= .cont
 | .ret v,f=>∃x,f= .ret x/\dH ρ h v x
section
variable(c:Cx)
def PX(n:Nat)(m:MS)(fi:Nat)(os:List O)(fl:Fl)(H':List O):Prop:=
 ∀(A:Around) (env:Env) (x:Stmt) (s:Shared) (ρ:List Addr) (Q:Flow->Shared->Prop) (E:Value->Shared->Prop),ee A (n+c.P.room)->dE env fi ρ->gI c.nm env.scope m x->c.R ρ os s.heap->e9 c ρ->
  (∀ρ' s' N1,c.Rs ρ os s ρ' H' s'->qR ρ' s'.heap fl N1->Q N1 s')->wpAny c.M A (exec x env) Q E s
def SX(n:Nat)(f:MS->Nat->St->Option (Fl×St)):Prop:=∀m fi st fl C',f m fi st=some (fl,C')->All C'.cs->All st.cs/\PX c n m fi st.os fl C'.os
def PS(n:Nat)(m:List MS)(fi:Nat)(os:List O)(fl:Fl)(H':List O):Prop:=
 ∀(A:Around) (env:Env) (x:List Stmt) (s:Shared) (ρ:List Addr) (Q:Flow->Shared->Prop) (E:Value->Shared->Prop),ee A (n+c.P.room)->dE env fi ρ->iT c.nm env.scope m x->c.R ρ os s.heap->e9 c ρ->
  (∀ρ' s' N1,c.Rs ρ os s ρ' H' s'->qR ρ' s'.heap fl N1->Q N1 s')->wpAny c.M A (execs x env) Q E s
def SS(n:Nat)(f:List MS->Nat->St->Option (Fl×St)):Prop:=∀m fi st fl C',f m fi st=some (fl,C')->All C'.cs->All st.cs/\PS c n m fi st.os fl C'.os
def Aw(m:MS)(fi:Nat)(os:List O)(fl:Fl)(H':List O):Prop:=
 ∀(A:Around) (env:Env) (x:Stmt) (s:Shared) (ρ:List Addr) (Q:Flow->Shared->Prop) (E:Value->Shared->Prop),ee A c.P.room->dE env fi ρ->gI c.nm env.scope m x->c.R ρ os s.heap->e9 c ρ->
  (∀ρ' s' N1,c.Rs ρ os s ρ' H' s'->qR ρ' s'.heap fl N1->Q N1 s')->wpAny c.M A (exec x env) Q E s
def fJ(f:Nat)(vs:List V)(os:List O)(v:V)(H':List O):Prop:=
 ∀(A:Around) (xs:List Value) (s:Shared) (ρ:List Addr) (Q E:Value->Shared->Prop),ee A c.P.room->c.R ρ os s.heap->e9 c ρ->dy ρ s.heap vs xs->
  (∀ρ' s' y,c.Rs ρ os s ρ' H' s'->dH ρ' s'.heap v y->Q y s')->codeAny c.M A (.call (.ref f) ⟨xs,[]⟩) (λr s'=>match r with | .ok (.ret v)=>Q v s' | .ok _=>False | .error e=>E e s') s
structure tO(f:Addr)(ps:List Nm)(body:List MS)(fd:FuncData)(b:List Stmt):Prop where
 at_:∃oc od osl,c.K.lookup f=some ⟨oc,od,.func fd,osl⟩
 kind:fd.scope.kind= .function
 co:fd.scope.isCoroutine=false
 gen:fd.scope.isGenerator=false
 glob:fd.globals=mainGlobals
 blt:fd.builtins=builtinsNs
 code:codeIn c.K fd.code fd.qualname=true
 cell:∀x∈fd.scope.names,x.2≠ .cell
 loc:∀n∈ps,fd.scope.names.lookup (c.nm n)=some .local
 bind:∀s:Shared,c.K.In s.heap->∀xs:List Value,xs.length=ps.length->BindsTo s fd ⟨xs,[]⟩ ((ps.map c.nm).zip xs)
 nodup:ps.Nodup
 fbody:fd.body= .stmts b
 chk:iT c.nm fd.scope body b=true
structure Cx.More:Prop where
 fn:∀f ps body,c.P.fn f=some (ps,body)->∃fd b,tO c f ps body fd b
 spec:∀f vs os v H',c.P.spec f vs os v H'->fJ c f vs os v H'
 specK:∀f,c.P.orc f=true->keepIn c.K (.ref f)=true
 specL:∀m fi os fl H',c.P.specL m fi os fl H'->Aw c m fi os fl H'
end
theorem ww{n k:Nm}{v:V}:∀b:List (Nat×V),gX k (jK n v b)=if k=n then some v else gX k b
 |[]=>by
  cases e:Nat.beq n k with
  |true=>rw[if_pos ((gB e).mp rfl).symm];exact kS e
  |false=>rw[if_neg (λz=>by have:=(gB e).mpr z.symm;cases this)];exact iU e
 |(j,x)::r=>by
  cases e:Nat.beq j n with
  |true=>
   rw[wu e];have jn:=(gB e).mp rfl;cases e2:Nat.beq j k with
   |true=>rw[kS e2,if_pos (((gB e2).mp rfl).symm.trans jn)]
   |false=>rw[iU e2,if_neg (λz=>by have:=(gB e2).mpr (jn.trans z.symm);cases this),iU e2]
  |false=>
   rw[uj e];cases e2:Nat.beq j k with
   |true=>rw[kS e2,kS e2,if_neg (λz=>by have:=(gB e).mpr (((gB e2).mp rfl).trans z);cases this)]
   |false=>rw[iU e2,iU e2];exact ww r
def MX(c:Cx)(fi:Nat)(nn:Nm)(v:V)(os H':List O):Prop:=
  ∀(A:Around) (env:Env) (s:Shared) (ρ:List Addr) (y:Value) (Q:Unit->Shared->Prop) (E:Value->Shared->Prop),dE env fi ρ->env.scope.names.lookup (c.nm nn)=some .local->c.R ρ os s.heap->dH ρ s.heap v y->
   (∀s',c.Rs ρ os s ρ H' s'->Q Unit.unit s')->wpAny c.M A (storeName env (c.nm nn) y) Q E s
set_option backward.match.sparseCases false in
theorem d8{c:Cx}(X:c.Ok){fi:Nat}{nn:Nm}{v:V}{st C':St}(h:gQ st fi nn v=some C'):C'.cs=st.cs/\C'.ch=st.ch/\MX c fi nn v st.os C'.os:=by
 have h:(match nth st.os fi with
  |some (.frame b)=>some (mE st fi (.frame (jK nn v b)))
  |_=>none)=some C':=h
 cases e:nth st.os fi with
 |none=>rw[e] at h;cases h
 |some o=>
  rw[e] at h;cases o with
  |frame b=>
   cases h;refine⟨rfl,rfl,λA env s ρ y Q E en hl R vy q=>?_⟩;obtain⟨m,hm,z⟩:=R.at en.loc e;refine wpAny_storeName_local hl hm (λh' hm' sb=>?_) en.notCls;have tk:=R.tkBut en.loc e rfl sb;refine q _ (eR.setC R en.loc e rfl (λb x e m=>by rw[sb.2 b (λq=>m (by rw[q];exact .head _))];exact e) ⟨_,hm',λk w e2=>?_⟩ rfl rfl (aY sb.1.symm));rw[ww] at e2
   by_cases hk:k=nn
   .subst hk
    rw[if_pos rfl] at e2;cases e2;exact⟨y,if_pos rfl,vy.up (.refl _) tk⟩
   .rw[if_neg hk] at e2
    obtain⟨x,h1,h2⟩:=z k w e2;exact⟨x,by rw[if_neg (λz=>hk (X.inj _ _ z))];exact h1,h2.up (.refl _) tk⟩
  |_=>cases h
inductive qt(c:Cx)(env:Env):List Nm->List (Value->Sem Unit)->Prop
 |nil:qt c env [] []
 |cons {n:Nm} {ns:List Nm} {t:Value->Sem Unit} {ts:List (Value->Sem Unit)}:env.scope.names.lookup (c.nm n)=some .local->
   (∀(A:Around) (E:Value->Shared->Prop) (s:Shared) (x:Value) (Q:Unit->Shared->Prop),wpAny c.M A (storeName env (c.nm n) x) Q E s->wpAny c.M A (t x) Q E s)->qt c env ns ts->qt c env (n::ns) (t::ts)
theorem oV{α β:Type}{o:Option α}{f:α->Option β}{b:β}(h:on o f=some b):∃a,o=some a/\f a=some b:=match o,h with
 |some a,h=>⟨a,rfl,h⟩
def MV(c:Cx)(fi:Nat)(ns:List Nm)(vs:List V)(os H':List O):Prop:=
  ∀(A:Around) (env:Env) (s:Shared) (ρ:List Addr) (ts:List (Value->Sem Unit)) (ys:List Value) (Q:Unit->Shared->Prop) (E:Value->Shared->Prop),dE env fi ρ->qt c env ns ts->c.R ρ os s.heap->dy ρ s.heap vs ys->
   (∀s',c.Rs ρ os s ρ H' s'->Q Unit.unit s')->wpAny c.M A (assignInOrder ts ys) Q E s
theorem jb{c:Cx}(X:c.Ok){fi:Nat}:∀{ns:List Nm} {vs:List V} {st C':St},kh fi ns vs st=some C'->C'.cs=st.cs/\MV c fi ns vs st.os C'.os
 |[],[],st,C',h=>by
  cases h;refine⟨rfl,λA env s ρ ts ys Q E en sts R vs q=>?_⟩;cases sts;cases vs;exact aE (q s (.refl R))
 |[],_::_,_,_,h=>by cases h
 |_::_,[],_,_,h=>by cases h
 |nn::ns,v::vs,st,C',h=>by
  obtain⟨st1,e1,h⟩:=oV h;obtain⟨k1,k0,k2⟩:=d8 X e1;obtain⟨j1,j2⟩:=jb X h;refine⟨j1.trans k1,λA env s ρ ts ys Q E en sts R vs q=>?_⟩;obtain⟨y,ys,rfl,vy,vys⟩:=vs;cases sts with
  |cons hl ht sts=>
   refine aa (aU (ht A E s y _ (k2 A env s ρ y _ E en hl R vy λs1 r1=>?_)));exact j2 A env s1 ρ _ ys Q E en sts r1.rel (r1.vs R vys) λs2 r2=>q s2 (r1.trans r2)
theorem qU{fi:Nat}:∀{ns:List Nm} {vs:List V} {st C':St},kh fi ns vs st=some C'->ns.length=vs.length
 |[],[],_,_,_=>rfl
 |[],_::_,_,_,h=>by cases h
 |_::_,[],_,_,h=>by cases h
 |_::_,_::_,_,_,h=>let⟨_,_,h⟩:=oV h;az (·+1) (qU h)
theorem jG{c:Cx}{env:Env}:∀{ns:List Nm} {ts:List Expr},ud c.nm env.scope ns ts=true->qt c env ns ((assignEach ts env).map (·.2))/\(assignEach ts env).findIdx? (·.1)=none/\(assignEach ts env).length=ns.length
 |[],ts,h=>by
  obtain rfl:ts=[]:=iq h;exact⟨.nil,rfl,rfl⟩
 |nn::ns,ts,h=>by
  have a:=cW h;have b:=cW a.1;have l:=yZ _ _ b.2;obtain⟨s1,s2,s3⟩:=jG a.2;rw[show ts=ic ts::ts.tail from ry b.1,l.1];refine⟨.cons l.2 (λA E s x Q hx=>?_) s1,?_,az (·+1) s3⟩
  .show wpAny c.M A (assign (.Name (c.nm nn) _) env x) Q E s
   rw[arm_assign_Name];exact aa (ba (wpAny_bindName hx))
  .show List.findIdx? (λz=>z.1) ((false,assign (.Name (c.nm nn) (kQ (ic ts))) env)::assignEach ts.tail env)=none
   rw[List.findIdx?_cons];simp only[Bool.false_eq_true,if_false,s2];rfl
theorem qY{c:Cx}{env:Env}:∀{ns:List Nm},(∀n∈ns,env.scope.names.lookup (c.nm n)=some .local)->qt c env ns ((ns.map c.nm).map λn=>bindName env n)
 |[],_=>.nil
 |nn::ns,h=>.cons (h nn (.head _)) (λA E s x Q hx=>wpAny_bindName hx) (qY λk m=>h k (.tail _ m))
theorem qH{prog:Program}{w:World}{A:Around}{E:Value->Shared->Prop}{s:Shared}{l:Addr}{z':List Value}{m k:Nat}{i:Int}{t:Tok}{v:Value}{Q:Unit->Shared->Prop}(ho:s.heap.get? l=some (fw z' m))(hi:i=(k:Int))(hfit:k<2^20)(hn:k<z'.length)
  (hQ:∀h' m',h'.get? l=some (fw (z'.set k v) m')->Heap.SameBut l s.heap h'->Q Unit.unit {s with heap:=h'}):
  wpAny (model prog w) A (setItem (.ref l) (.int i t) v) Q E s:=by
 have hl:s.heap.IsList l z'.toArray:=⟨_,ho,rfl,m,rfl⟩
 have hx:z'.toArray[k]?=some z'[k]:=by simp [hn]
 have up:=PySem.IsL.update ho (λxs=>xs.setIfInBounds k v);rw[if_pos (by simp)] at up;rw[show z'.toArray.setIfInBounds k v=(z'.set k v).toArray from by simp] at up;have h0:0<=i:=by omega
 have hf:i<2^63:=by omega
 clear hfit;unfold setItem
 try with_reducible refine aU ?_
 first | refine aa (aE ?_) | skip
 refine aa (wpAny_sequenceKey hl.typeIs () ?_);refine aa (wpAny_callSpecial?_slot (name:=Str.ofString "__setitem__") hl.typeIs slot_list_setitem
  (wpAny_call_entry slot_list_setitem hl.typeIs entry_list_setitem ?_ (args_list_setitem _ _ _)))
 show wpAny _ _ (Builtin.List.listSubscript? (.int i t) >>= _) _ _ s;refine aa (wpAny_listSubscript_int (fitsIndex_of h0 hf) ?_);clear hf h0;subst hi;show wpAny _ _ ((seqItemAt l k >>= λr=>pure (r.map (k,·))) >>= _) _ _ s;refine aa (aa (wpAny_seqItemAt ho rfl (aE ?_)));rw[hx];show wpAny _ _ (setSeqItemAt l k v >>= _) _ _ s;refine aa (wpAny_setSeqItemAt ho rfl ?_)
 first
  |exact aa (aE (aE ⟨.none,rfl,aE (hQ _ m up (bU ..))⟩))
  |exact aE ⟨.none,rfl,aE (hQ _ m up (bU ..))⟩
theorem BQ{op:Operator}{a b v:V}(h:Ad op a b=some v):op= .Add/\∃y i z j,a= .int y i/\b= .int z j/\v= .int (y||z) (i+j):=by
 cases op with
 |Add=>
  cases a with
  |int y i=>
   cases b with
   |int z j=>exact⟨rfl,_,_,_,_,rfl,rfl,(ac h).symm⟩
   |_=>cases h
  |_=>cases h
 |_=>cases h
section
set_option tactic.hygienic true
theorem tY{op:Operator}{a b v:V}(h:Ad op a b=some v){prog:Program}{w:World}{A:Around}{s:Shared}{ρ:List Addr}{x y:Value}{Q E:Value->Shared->Prop}(va:dH ρ s.heap a x)(vb:dH ρ s.heap b y)
  (q:∀z,dH ρ s.heap v z->Q z {s with toks:=s.toks+1}):wpAny (model prog w) A (inplaceOp op x y) Q E s:=by
 obtain⟨rfl,y1,i,z,j,rfl,rfl,rfl⟩:=BQ h;obtain⟨t,rfl⟩:=va;obtain⟨u,rfl⟩:=vb;exact PyProof.Rows.iadd_int (q _ ⟨_,rfl⟩)
theorem mX{v:Expr}(h:ip v)(t:Expr)(l:Nat)(env:Env):swapsWithSole [t] v l env=pure false:=gA h (some t) l env
nonrec theorem xM{nm:Nat->Str}{sc:Scope}{ns:List Nm}{ts vs:List Expr}(h:nu nm sc ns ts vs):ns.length<=3/\∀n∈ns,sc.names.lookup (nm n)=some .local:=by
 unfold nu at h;obtain⟨h,h9⟩:=cW h;obtain⟨h,h8⟩:=cW h;obtain⟨h,h7⟩:=cW h;obtain⟨h,h6⟩:=cW h;obtain⟨h,h5⟩:=cW h;obtain⟨h,h4⟩:=cW h;obtain⟨h,h3⟩:=cW h;obtain⟨h1,h2⟩:=cW h;have e8:=am.mp h8;have e4:=am.mp h4;have l:ns.length=ts.length:=by rw[<-e4,e8,af]
 refine⟨?_,λn m=>am.mp (aT.mp h9 n m)⟩;rcases Bool.or_eq_true_iff.mp h1 with z | z
 .have:=am.mp z;omega
 .have:=am.mp z;omega
theorem Ks(prog:Program)(w:World)(x:Str)(t:Tok):(strKind prog w).is x (.str x t)=true:=by
 show(x==x)=true;exact bC x
section
variable{c:Cx}
theorem SX.in{n:Nat}{f:MS->Nat->St->Option (Fl×St)}(H:∀m fi st,oP (f m fi st) (K0 st (PX c n m fi st.os))):SX c n f:=λm fi st I I h=>(H m fi st).out h
theorem SX.o{n:Nat}{f:MS->Nat->St->Option (Fl×St)}(H:SX c n f)(m:MS)(fi:Nat)(st:St):oP (f m fi st) (K0 st (PX c n m fi st.os)):=oP.into λv C' h=>H m fi st v C' h
theorem SS.o{n:Nat}{f:List MS->Nat->St->Option (Fl×St)}(H:SS c n f)(m:List MS)(fi:Nat)(st:St):oP (f m fi st) (K0 st (PS c n m fi st.os)):=oP.into λv C' h=>H m fi st v C' h
theorem AC(X:c.Ok){fi:Nat}{nn:Nm}{v:V}{st:St}{W:Fl->List O->Prop}(k:∀os,MX c fi nn v st.os os->W .next os):oP (on (gQ st fi nn v) λst=>some (Fl.next,st)) (K0 st W):=
 qw λst2 h hc=>let z:=d8 X h;⟨z.1▸hc,k _ z.2.2⟩
theorem wr(X:c.Ok){fi:Nat}{ns:List Nm}{vs:List V}{st:St}{W:Fl->List O->Prop}(k:∀os,ns.length=vs.length->MV c fi ns vs st.os os->W .next os):oP (on (kh fi ns vs st) λst=>some (Fl.next,st)) (K0 st W):=
 qw λst2 h hc=>let z:=jb X h;⟨z.1▸hc,k _ (qU h) z.2⟩
def MP(c:Cx)(j:Nat)(k v:V)(os:List O)(fl:Fl)(H':List O):Prop:=fl= .next/\∀(A:Around) (s:Shared) (ρ:List Addr) (b:Addr) (xk xv:Value) (Q:Unit->Shared->Prop) (E:Value->Shared->Prop),c.R ρ os s.heap->nth ρ j=some b->dH ρ s.heap k xk->dH ρ s.heap v xv->
  (∀s',c.Rs ρ os s ρ H' s'->Q Unit.unit s')->wpAny c.M A (setItem (.ref b) xk xv) Q E s
end
nonrec theorem Lx{c:Cx}{j:Nat}{v:V}{st:St}{{q:O}}{{k:V}}(e:nth st.os j=some q):oP (Lu j q k v st) (K0 st (MP c j k v st.os)):=by
 cases q with
 |list y xs=>cases k with
  |int z k=>
   refine qw λm em=>qw λw e2 hc=>⟨(i5 hc).1,rfl,λA s ρ b xk xv Q E R hb vk vv q=>?_⟩
   obtain⟨t,rfl⟩:=vk;obtain⟨z',w,ho,z⟩:=R.at hb e;refine qH ho (sx em) (i5 hc).2 (by rw[z.length];exact fR e2) λh' m' e' sb=>?_;have tk:=R.tkBut hb e rfl sb;rw[oA] at q;exact q _ (eR.setL R hb e rfl rfl sb ⟨_,_,e',(z.up (.refl _) tk).setN (vv.up (.refl _) tk) m⟩)
  |_=>exact N4
 |dict ks=>cases k with
  |str y key=>
   have go:∀{ks':List Str},(ks=[]\/ks=[key])->ks'=[key]->MP c j (.str y key) v st.os .next (setN st.os j (.dict ks')):=by
    intro ks' hk hk';refine⟨rfl,λA s ρ b xk xv Q E R hb vk vv q=>?_⟩;obtain⟨t,rfl⟩:=vk;obtain⟨kvs,dk,ek⟩:=R.at hb e;refine wpAny_setItem_pairs (knd:=strKind c.prog c.w) (k:=key) (Ks _ _ _ _) dk (λh' d' sb=>?_) (ax (show kvs.length<=1 from ?_) (ax () dv))
    .refine q _ (eR.setC R hb e rfl (λb x e m=>by rw[sb.2 b (λq=>m (by rw[q];exact .head _))];exact e) ⟨_,d',?_⟩ rfl rfl (aY sb.1.symm))
     subst hk';rcases hk with h | h
     .subst h
      obtain rfl:kvs=[]:=List.map_eq_nil_iff.mp ek;rfl
     .subst h
      cases kvs with
      |nil=>injection ek
      |cons kv r=>cases r with
       |nil=>obtain⟨k0,v0⟩:=kv;cases ek;simp [stored]
       |cons _ _=>cases ek
    .have:=az List.length ek
     rw[af] at this;rw[this];rcases hk with h | h
     .rw[h];exact aJ _
     .rw[h];exact ao _
   cases ks with
   |nil=>exact λhc=>⟨hc,go (.inl rfl) rfl⟩
   |cons t r=>cases r with
    |nil=>exact λhc=>⟨hc.tail,by have hk:key=t:=hc.head;subst hk;exact go (.inr rfl) rfl⟩
    |cons _ _=>exact N4
  |_=>exact N4
 |_=>exact N4
theorem Ba{v:V}(h:Fb v){ρ:List Addr}{hp:Heap}{x:Value}(r:dH ρ hp v x)(a:Addr):x≠ .ref a:=λe=>by
 subst e;cases v with
 |none=>injection r
 |int _ _=>obtain⟨_,r⟩:=r;injection r
 |bool _=>injection r
 |_=>injection h
theorem L7{β:Type}{K:β->St->Prop}{st:St}{f:Fl->List O->List Ch->Option (β×St)}(k:∀x os r,oP (f x os r) K):oP (LJ st f) K:=by
 obtain⟨os,ch,cs⟩:=st;cases ch with
 |nil=>exact N4
 |cons h l=>cases h with
  |l x os=>exact k x os l
  |_=>exact N4
theorem L6{β:Type}{K:β->St->Prop}{st:St}{f:V->List O->List Ch->Option (β×St)}(k:∀x os r,oP (f x os r) K):oP (MK st f) K:=by
 obtain⟨os,ch,cs⟩:=st;cases ch with
 |nil=>exact N4
 |cons h l=>cases h with
  |k x os=>exact k x os l
  |_=>exact N4
nonrec theorem ve{c:Cx}{ih:Ev}{n:Nat}(X:c.Ok)(Y:c.More)(He:SE c n ih.e)(Ht:ST c n ih.t)(Hs:SS c n ih.ss):SX c (n+1) (jk c.P ih):=by
 exact(SX.in λm fi st=>by
 have loop:∀{m},oP (LJ st λf os r=>some (f,⟨os,r,c.P.specL m fi st.os f os::st.cs⟩)) (K0 st (PX c (n+1) m fi st.os)):=L7 λf os r hc=>
  ⟨hc.tail,λA env x s ρ Q E rm en ck R ad q=>Y.specL _ _ _ _ _ hc.head A env x s ρ Q E (rm.less (by omega)) en ck R ad q⟩
 cases m with
 |oth=>exact N4
 |expr e=>
  refine sq (He.o e fi st) λv st1=>yF (λpv=>og λk2 A env x s ρ Q E rm en ck R ad q=>?_) λI=>trivial;obtain⟨v',p,rfl,hn,c1⟩:=xC _ _ ck;refine wpAny_Expr (k2 A env v' s ρ _ _ (iQ rm) en c1 R ad λρ1 s1 y1 r1 v1=>?_) (by unfold interactive;rw[en.kind];rfl) (gA hn _ _ _);have z:=q ρ1 s1 .next r1 rfl;cases y1<;>first | exact z | exact absurd rfl (Ba pv v1 _)
 |asg nn e=>
  refine sq (He.o e fi st) λv st1=>AC X λos j2 k2 A env x s ρ Q E rm en ck R ad q=>?_;obtain⟨p,v',p',rfl,hl,hn,c1⟩:=vC _ _ ck;exact cA (k2 A env v' s ρ _ _ (iQ rm) en c1 R ad λρ1 s1 y1 r1 v1=>j2 A env s1 ρ1 y1 _ E (en.grow r1.grow) hl r1.rel v1 λs2 r2=>q ρ1 s2 .next (r1.trans r2) rfl) (gA hn _ _ _)
 |asgA o nn e=>
  refine sq (He.o e fi st) λv st1=>sq (He.o o fi st1) λa st2=>sq (AZ X) λI st3=>og λi2 j2 k2 A env x s ρ Q E rm en ck R ad q=>?_;obtain⟨o',p,v',p',rfl,hn,c1,c2⟩:=xp _ _ ck;refine cC (k2 A env v' s ρ _ _ (iQ rm) en c2 R ad λρ1 s1 y1 r1 v1=>?_) (mX hn _ _ _) rfl;show wpAny c.M A (assign (.Attribute o' _ p) env y1) _ E s1;rw[arm_assign_Attribute];refine aa (aU (j2 A env o' s1 ρ1 _ _ (iQ rm) (en.grow r1.grow) c1 r1.rel (eB.trans ad r1.grow) λρ2 s2 y2 r2 v2=>?_));refine aa (ba (aa (aU (i2 A s2 ρ2 y2 y1 _ E r2.rel (eB.trans ad (r1.grow.trans r2.grow)) v2 (r2.v r1.rel v1) λs3 r3=>?_))));exact wpAny_release (q ρ2 s3 .next ((r1.trans r2).trans r3) rfl)
 |asgI o i e=>
  refine sq (He.o e fi st) λv st1=>sq (He.o o fi st1) λa st2=>sq (He.o i fi st2) λk st3=>I7 sN λj ch cs=>qw λq0 e0=>K0.imp (Lx (c:=c) e0) λfl os fin M i2 j2 k2 A env x s ρ Q E rm en ck R ad q=>?_;obtain⟨rfl,fin⟩:=fin;obtain⟨o',i',p,v',p',rfl,hs,hn,c1,c2,c3⟩:=Ec _ _ ck;refine wpAny_Assign_Subscript (k2 A env v' s ρ _ _ (iQ rm) en c3 R ad λρ1 s1 y1 r1 v1=>?_) (gA hn _ _ _);refine j2 A env o' s1 ρ1 _ _ (iQ rm) (en.grow r1.grow) c1 r1.rel (eB.trans ad r1.grow) λρ2 s2 y2 r2 v2=>?_;refine i2 A env i' s2 ρ2 _ _ (iQ rm) (en.grow (r1.grow.trans r2.grow)) c2 r2.rel (eB.trans ad (r1.grow.trans r2.grow)) λρ3 s3 y3 r3 v3=>?_;obtain⟨b,hb,rfl⟩:=M ρ2 s2.heap y2 (eB.trans ad (r1.grow.trans r2.grow)) v2;exact fin A s3 ρ3 b y3 y1 _ E r3.rel (r3.grow _ _ hb) v3 (r3.v r2.rel (r2.v r1.rel v1)) λs4 r4=>q ρ3 s4 .next (((r1.trans r2).trans r3).trans r4) rfl
 |asgT ns e=>
  refine sq (He.o e fi st) λv st1=>Km λvs ev=>wr X λos ln j2 k2 A env x s ρ Q E rm en ck R ad q=>?_;subst ev;obtain⟨ts,k,p,v',p',rfl,c0,hn,ht,c1⟩:=sr _ _ ck;refine cC (k2 A env v' s ρ _ _ (iQ rm) en c1 R ad λρ1 s1 y1 r1 v1=>?_) (mX hn _ _ _) (ky ht _);obtain⟨t,z',rfl,it,vr⟩:=v1;obtain⟨q1,q2,q3⟩:=jG c0;show wpAny c.M A (assign (.Tuple ts k p) env (.ref t)) _ E s1;refine wpAny_assign_Tuple rm.handled it (by rw[q3,ln,aI,vr.length]) q2 λh' xb=>?_;have kp:∀b o,s1.heap.get? b=some o->h'.get? b=some o:=λb o e=>xb b o (bG (ay e)) e;have r2:=eR.more0 (s':={s1 with heap:=h'}) r1.rel kp rfl rfl;exact j2 A env _ ρ1 _ _ _ E (en.grow r1.grow) q1 r2.rel (vr.up (.refl _) (.of_keeps kp)) λs3 r3=>q ρ1 s3 .next ((r1.trans r2).trans r3) rfl
 |asgD ns es=>
  refine sq (j7 He es st) λvs st1=>wr X λos ln j2 k2 A env x s ρ Q E rm en ck R ad q=>?_;obtain⟨ts,k,p,vs',k',p',p'',rfl,c0,c1⟩:=Dw _ _ ck;obtain⟨l1,l2⟩:=xM c0;rw[bL,bL] at ln;rw[exec_Assign_arm];refine aa (ba ?_);rw[mX rfl];refine aa (aE ?_);rw[if_neg ()];refine aa (cN (k2 A env p' vs' s ρ _ _ (iQ rm) en c1 R ad λρ1 s1 ys r1 vr=>?_));refine⟨ax (by rw[vr.length,<-ln];exact l1) (ax () dv),?_⟩;rw[vR en.kind c0];refine aa (aE ?_);unfold assignStores;dsimp only;have kp0:∀b o,s1.heap.get? b=some o->(s1.heap.push {cls:=.type "tuple",data:=.seq ys.toArray}).get? b=some o:=λb o e=>ae _ e;rw[show(ns.map c.nm).length=ys.toArray.size from by rw[af,ln,aI,vr.length]];refine aa (wpAny_rule (aa (wpAny_unpackItems_tuple rm.handled ⟨_,aB _ rfl,rfl,0,rfl⟩ λh' xb=>?_)));have kp:∀b o,s1.heap.get? b=some o->h'.get? b=some o:=λb o e=>xb b o (bG (ay (kp0 b o e))) (kp0 b o e);have r2:=eR.more0 (s':={s1 with heap:=h'}) r1.rel kp rfl rfl;have sts:=qY (c:=c) (env:=env) (ns:=ns.reverse) λn m=>l2 n (List.mem_reverse.mp m);rw[List.map_reverse] at sts;exact aa (j2 A env _ ρ1 _ _ _ E (en.grow r1.grow) sts r2.rel (vr.up (.refl _) (.of_keeps kp)).rev λs3 r3=>aE (q ρ1 s3 .next ((r1.trans r2).trans r3) rfl))
 |aug nn op e=>
  refine qw λa e0=>sq (He.o e fi st) λb st1=>qw λv e1=>AC X λos j2 k2 A env x s ρ Q E rm en ck R ad q=>?_;obtain⟨p,v',p',rfl,hl,c1⟩:=GT _ _ ck;refine wpAny_AugAssign_Name (pX e0 en hl R λy0 v0=>?_);refine k2 A env v' s ρ _ _ (iQ rm) en c1 R ad λρ1 s1 y1 r1 v1=>?_;refine tY e1 (r1.v R v0) v1 λz vz=>?_;have r2:=eR.more0 (s':={s1 with toks:=s1.toks+1}) r1.rel (λI I e=>e) rfl rfl;exact j2 A env _ ρ1 z _ E (en.grow r1.grow) hl r2.rel vz λs3 r3=>q ρ1 s3 .next ((r1.trans r2).trans r3) rfl
 |augA o nn op e=>
  refine sq (He.o o fi st) λqv st1=>I7 (vB X) λa ch cs=>sq (He.o e fi _) λb st3=>qw λv e1=>sq (AZ X) λI st4=>og λi2 j2 l3 k2 A env x s ρ Q E rm en ck R ad q=>?_;obtain⟨o',p,v',p',rfl,c1,c2⟩:=DC _ _ ck;refine wpAny_AugAssign_AttributeAny (k2 A env o' s ρ _ _ (iQ rm) en c1 R ad λρ1 s1 y1 r1 v1=>?_);refine l3 A s1 ρ1 y1 true _ E r1.rel (eB.trans ad r1.grow) v1 λs2 y2 r2 v2=>?_;have r12:=r1.trans r2;refine j2 A env v' s2 ρ1 _ _ (iQ rm) (en.grow r1.grow) c2 r2.rel (eB.trans ad r1.grow) λρ3 s3 y3 r3 v3=>?_;refine tY e1 (r3.v r2.rel v2) v3 λz vz=>?_;have r4:=eR.more0 (s':={s3 with toks:=s3.toks+1}) r3.rel (λI I e=>e) rfl rfl;exact i2 A _ ρ3 y1 z _ E r4.rel (eB.trans ad (r1.grow.trans r3.grow)) (r3.v r2.rel (r2.v r1.rel v1)) vz λs5 r5=>q ρ3 s5 .next (((r12.trans r3).trans r4).trans r5) rfl
 |ret e=>cases e with
  |none=>
   refine og λA env x s ρ Q E rm en ck R ad q=>?_;obtain⟨v',p,rfl,c1⟩:=vq _ _ ck;obtain rfl:=uu _ _ c1;exact wpAny_Return_none (q ρ s _ (.refl R) ⟨_,rfl,rfl⟩)
  |some e=>
   refine sq (He.o e fi st) λv st1=>og λk2 A env x s ρ Q E rm en ck R ad q=>?_;obtain⟨v',p,rfl,c1⟩:=vq _ _ ck;obtain⟨w,rfl,c1⟩:=pV _ _ c1;exact wpAny_Return_some (k2 A env w s ρ _ _ (iQ rm) en c1 R ad λρ1 s1 y1 r1 v1=>q ρ1 s1 _ r1 ⟨y1,rfl,v1⟩)
 |ite t a b=>
  refine sq (Ht.o t fi st) λk st1=>?_;cases k with
  |true=>
   refine K0.imp (Hs.o a fi st1) λv os j2 k2 A env x s ρ Q E rm en ck R ad q=>?_;obtain⟨t',a',b',p,rfl,c1,c2,c3⟩:=pD _ _ ck;exact wpAny_If (k2 A env t' s ρ _ _ (iQ rm) en c1 R ad λρ1 s1 r1=>j2 A env a' s1 ρ1 Q E (iQ rm) (en.grow r1.grow) c2 r1.rel (eB.trans ad r1.grow) λρ2 s2 f2 r2 v2=>q ρ2 s2 f2 (r1.trans r2) v2)
  |false=>
   refine K0.imp (Hs.o b fi st1) λv os j2 k2 A env x s ρ Q E rm en ck R ad q=>?_;obtain⟨t',a',b',p,rfl,c1,c2,c3⟩:=pD _ _ ck;exact wpAny_If (k2 A env t' s ρ _ _ (iQ rm) en c1 R ad λρ1 s1 r1=>j2 A env b' s1 ρ1 Q E (iQ rm) (en.grow r1.grow) c3 r1.rel (eB.trans ad r1.grow) λρ2 s2 f2 r2 v2=>q ρ2 s2 f2 (r1.trans r2) v2)
 |brk=>
  refine og λA env x s ρ Q E rm en ck R ad q=>?_;obtain⟨p,rfl⟩:=Ft _ _ ck;exact wpAny_Break (q ρ s _ (.refl R) rfl)
 |cont=>
  refine og λA env x s ρ Q E rm en ck R ad q=>?_;obtain⟨p,rfl⟩:=Em _ _ ck;exact wpAny_Continue (q ρ s _ (.refl R) rfl)
 |pass=>
  refine og λA env x s ρ Q E rm en ck R ad q=>?_;obtain⟨p,rfl⟩:=EX _ _ ck;exact wpAny_Pass (q ρ s _ (.refl R) rfl)
 |«while» t b=>exact loop
 |«for» nn it b=>exact loop)
nonrec theorem DK{c:Cx}{ih:Ev}{n:Nat}(Hx:SX c (n+1) (jk c.P ih))(Hs:SS c n ih.ss):SS c (n+1) (ES c.P ih):=by
 exact(λm fi st I I h=>oP.out (K:=K0 st (PS c (n+1) m fi st.os)) (by
 cases m with
 |nil=>
  refine og λA env x s ρ Q E rm en ck R ad q=>?_;obtain rfl:=oU _ _ ck;exact aM (q ρ s _ (.refl R) rfl)
 |cons x r=>
  have iY:∀{f st1},(∀ρ h g,qR ρ h f g->g≠ .next)->oP (some (f,st1)) (K0 st1 λf' os=>PX c (n+1) x fi st.os f st1.os->PS c (n+1) (x::r) fi st.os f' os):=λnx=>og λk2 A env x s ρ Q E rm en ck R ad q=>by
   obtain⟨y,ys,rfl,c1,c2⟩:=hG _ _ ck;refine ak (k2 A env y s ρ _ _ rm en c1 R ad λρ1 s1 f1 r1 v1=>?_);have z:=q ρ1 s1 f1 r1 v1;cases f1 with
   |next=>exact absurd rfl (nx _ _ _ v1)
   |_=>exact z
  refine sq (Hx.o x fi st) λf st1=>?_;cases f with
  |next=>
   refine K0.imp (Hs.o r fi st1) λf' os j2 k2 A env x s ρ Q E rm en ck R ad q=>?_;obtain⟨y,ys,rfl,c1,c2⟩:=hG _ _ ck;refine ak (k2 A env y s ρ _ _ rm en c1 R ad λρ1 s1 f1 r1 v1=>?_);obtain rfl:=v1;exact j2 A env ys s1 ρ1 Q E (iQ rm) (en.grow r1.grow) c2 r1.rel (eB.trans ad r1.grow) λρ2 s2 f2 r2 v2=>q ρ2 s2 f2 (r1.trans r2) v2
  |brk=>exact iY λI I I e=>by obtain rfl:=e;exact nofun
  |cont=>exact iY λI I I e=>by obtain rfl:=e;exact nofun
  |ret v=>exact iY λI I I ⟨_,e,_⟩=>by subst e;exact nofun) h)
theorem rF:∀{ps:List Nm} {vs:List V} {b:List (Nm×V)},qy ps vs=some b->vs.length=ps.length
 |[],[],_,_=>rfl
 |[],_::_,_,h=>by injection h
 |_::_,[],_,h=>by injection h
 |p::ps,v::vs,b,h=>by
  have h:(match(generalizing:=false) qy ps vs with | some r=>some ((p,v)::r) | none=>none)=some b:=h;cases e:qy ps vs with
  |some r=>exact az (·+1) (rF e)
  |none=>rw[e] at h;injection h
theorem oL{ρ:List Addr}{h:Heap}{nm:Nat->Str}(inj:∀i j,nm i=nm j->i=j):∀{ps:List Nm} {vs:List V} {xs:List Value} {b:List (Nm×V)},qy ps vs=some b->dy ρ h vs xs->ps.Nodup->
  ∀{k:Nm} {v:V},gX k b=some v->∃x,((ps.map nm).zip xs).reverse.lookup (nm k)=some x/\dH ρ h v x
 |[],[],_,_,h,_,_,k,v,e=>by cases h;cases e
 |[],_::_,_,_,h,_,_,_,_,_=>by injection h
 |_::_,[],_,_,h,_,_,_,_,_=>by injection h
 |p::ps,w::vs,_,b,hz,zh5,nd,k,v,e=>by
  obtain⟨x,xs,e1,vx,vxs⟩:=zh5;subst e1;have hz:(match(generalizing:=false) qy ps vs with | some r=>some ((p,w)::r) | none=>none)=some b:=hz;cases e0:qy ps vs with
  |none=>rw[e0] at hz;injection hz
  |some r=>
   rw[e0] at hz;cases hz;obtain⟨np,nd⟩:=List.nodup_cons.mp nd;show∃y,(((nm p,x)::(ps.map nm).zip xs).reverse).lookup (nm k)=some y/\_;rw[bu,List.lookup_append];have e:(match Nat.beq p k with | true=>some w | false=>gX k r)=some v:=e;cases z:Nat.beq p k with
   |true=>
    rw[z] at e;have:=(gB z).mp rfl;subst this;cases e;have none_:((ps.map nm).zip xs).reverse.lookup (nm p)=none:=by
     rw[List.lookup_eq_none_iff];intro q hq;rw[List.mem_reverse] at hq;have:=(cO hq).1;obtain⟨j,hj,e⟩:=List.mem_map.mp this;rw[bne_iff_ne];intro z;rw[<-e] at z;exact np (inj _ _ z▸hj)
    rw[none_];exact⟨x,by simp,vx⟩
   |false=>
    rw[z] at e;obtain⟨y,h1,h2⟩:=oL inj e0 vxs nd e;exact⟨y,by rw[h1];rfl,h2⟩
nonrec theorem xm{c:Cx}{n:Nat}{f:Addr}{ps:List Nm}{body:List MS}{fd:FuncData}{bd:List Stmt}{vs:List V}{b:List (Nm×V)}{A:Around}{xs:List Value}{s:Shared}{ρ:List Addr}{os:List O}{R':Result->Shared->Prop}(X:c.Ok)(K:tO c f ps body fd bd)(eb:qy ps vs=some b)(rm:ee A (n+1+c.P.room))(R:c.R ρ os s.heap)(vr:dy ρ s.heap vs xs)(h:∀h₀ t,(∀b o,s.heap.get? b=some o->h₀.get? b=some o)->c.Rs ρ os s (ρ++[s.heap.objs.size]) (os++[.frame b]) {s with heap:=h₀,toks:=t}->dE (callEnv fd s.heap.objs.size f) os.length (ρ++[s.heap.objs.size])->ee (A.deeper (callEnv fd s.heap.objs.size f)) (n+c.P.room)->
   wpAny c.M (A.deeper (callEnv fd s.heap.objs.size f)) (execs bd (callEnv fd s.heap.objs.size f)) (λf s'=>R' (.ok (.ret (match f with | .ret v=>v | _=>.none))) s')
    (λe s'=>wpAny c.M (A.deeper (callEnv fd s.heap.objs.size f)) (leaving (callEnv fd s.heap.objs.size f) e) (λI s''=>R' (.error e) s'') (λe' s''=>R' (.error e') s'') s') {s with heap:=h₀,toks:=t}):codeAny c.M A (.call (.ref f) ⟨xs,[]⟩) R' s:=by
 obtain⟨oc,od,osl,hf⟩:=K.at_;refine codeAny_call_def (by have:=rm.depth;omega) (X.In R _ _ hf) rfl (X.lim.keeps R.old) (codeRec_of (X.In R) K.code) K.fbody (K.bind _ (X.In R) xs (by rw[vr.length,rF eb])) K.cell (λx m=>?_) (λh₀ hns kp=>h h₀ _ kp ?_ ⟨K.kind,by rw[<-R.len];exact gr _ _,K.glob,K.blt⟩ ⟨?_,?_,rm.handled⟩) K.co K.gen K.kind
 .obtain⟨j,hj,e⟩:=List.mem_map.mp (cO m).1
  rw[<-e];exact K.loc j hj
 .refine eR.pushC (o:=.frame b) R kp (λx m=>by cases aj.mp m;exact fA s) ⟨_,hns,λk v e=>?_⟩ rfl rfl ?_
  .obtain⟨x,e1,e2⟩:=oL X.inj eb vr K.nodup e
   exact⟨x,e1,e2.up (.app _ _) (.of_keeps kp)⟩
  .obtain⟨o,es,ep,ho,_⟩:=hns
   exact aZ (ay ho)
 .show A.depth+1+(n+c.P.room)<recursionLimit
  have:=rm.depth;omega
 .show A.units+3+8*(n+c.P.room)<cLine
  have:=rm.units;omega
theorem zZ{c:Cx}{f:Addr}{ps:List Nm}{body:List MS}{fd:FuncData}{bd:List Stmt}(K:tO c f ps body fd bd):keepIn c.K (.ref f):=by
 obtain⟨oc,od,osl,hf⟩:=K.at_;unfold keepIn;dsimp only;rw[hf]
theorem FH{c:Cx}{ih:Ev}{n:Nat}(X:c.Ok)(Y:c.More)(Hs:SS c n ih.ss):SC c (n+1) (H3 c.P ih):=λf vs st I I h=>oP.out (K:=K0 st λv os=>keepIn c.K (.ref f)=true/\PC c (n+1) f vs st.os v os)
 (by
  refine yF (λeo=>?_) λI=>?_
  .refine L6 λv os r=>?_
   exact λhc=>⟨hc.tail,Y.specK _ eo,λA xs s ρ Q E rm R ad vr q=>Y.spec _ _ _ _ _ hc.head A xs s ρ Q E (rm.less (by omega)) R ad vr q⟩
  refine qw λpb ef=>qw λb eb=>?_;obtain⟨fd,bd,K⟩:=Y.fn _ _ _ ef;have go:∀(fl:Fl) (st1:St) (w:V),(∀ρ hp N1,qR ρ hp fl N1->dH ρ hp w (match N1 with | .ret v=>v | _=>.none))->oP (some (w,st1)) (K0 st1 λv os=>PS c n pb.2 st.os.length (st.os++[.frame b]) fl st1.os->keepIn c.K (.ref f)=true/\PC c (n+1) f vs st.os v os):=
   λfl st1 w hfl=>og λk2=>⟨zZ K,λA xs s ρ Q E rm R ad vr q=>xm X K eb rm R vr λh₀ t kp r0 en rm'=>k2 (A.deeper _) _ bd _ _ _ _ rm' en K.chk r0.rel (eB.trans ad r0.grow) λρ1 s1 N1 r1 v1=>q ρ1 s1 _ (r0.trans r1) (hfl _ _ _ v1)⟩
  refine sq (T:=λfl os=>PS c n pb.2 st.os.length (st.os++[.frame b]) fl os) (Hs.o pb.2 st.os.length ⟨st.os++[.frame b],st.ch,st.cs⟩) λfl st1=>?_;cases fl with
  |ret v=>exact go _ _ _ λρ hp N1 ⟨x,e,vx⟩=>by subst e;exact vx
  |next=>exact go _ _ _ λρ hp N1 e=>by obtain rfl:=e;rfl
  |_=>exact N4) h
theorem gV{c:Cx}(X:c.Ok)(Y:c.More):∀n,SE c n (ev c.P n).e/\ST c n (ev c.P n).t/\SS c n (ev c.P n).ss/\SC c n (ev c.P n).c
 |0=>⟨λI I I I I h=>absurd (show none=some _ from h) (by simp),λI I I I I h=>absurd (show none=some _ from h) (by simp),λI I I I I h=>absurd (show none=some _ from h) (by simp),λI I I I I h=>absurd (show none=some _ from h) (by simp)⟩
 |n+1=>
  let⟨he,ht,hs,hc⟩:=gV X Y n
  ⟨Hj X he ht hc,FD X he ht,DK (ve X Y he ht hs) hs,FH X Y hs⟩
end
/-! changing the layout of the cells -/
mutual
noncomputable def RV(f:Nat->Option Nat):V->V->Prop
 | .none,w=>w= .none
 | .bool b,w=>w= .bool b
 | .int _ i,w=>∃y,w= .int y i
 | .str _ s,w=>∃y,w= .str y s
 | .tup vs,w=>∃ws,w= .tup ws/\RVs f vs ws
 | .obj i,w=>∃j,f i=some j/\w= .obj j
 | .val x,w=>w= .val x
 | .bi k,w=>w= .bi k
noncomputable def RVs(f:Nat->Option Nat):List V->List V->Prop
 |[],l=>l=[]
 |v::vs,l=>∃w ws,l=w::ws/\RV f v w/\RVs f vs ws
end
def RFs(f:Nat->Option Nat):List (Nm×V)->List (Nm×V)->Prop
 |[],l=>l=[]
 |(n,v)::fs,l=>∃w ws,l=(n,w)::ws/\RV f v w/\RFs f fs ws
def RO(f:Nat->Option Nat):O->O->Prop
 | .frame b,o=>∃b',o= .frame b'/\∀n v,gX n b'=some v->∃w,gX n b=some w/\RV f w v
 | .list _ xs,o=>(∃y ys,o= .list y ys/\RVs f xs ys)\/(∃top,o= .stk top []/\RVs f xs top.reverse)\/o= .any
 | .stk top u',o=>(∃top',o= .stk top' u'/\RVs f top top')\/o= .any\/(u'=[]/\∃y ys,o= .list y ys/\RVs f top.reverse ys)
 | .inst C fs,o=>∃fs',o= .inst C fs'/\RFs f fs fs'
 | .dict ks,o=>o= .dict ks
 | .any,o=>o= .any
mutual
theorem RV.rep{f:Nat->Option Nat}{ρ ρ':List Addr}{h:Heap}(g:∀i j,f i=some j->∀a,nth ρ i=some a->nth ρ' j=some a):∀{v w:V} {x:Value},RV f v w->dH ρ h v x->dH ρ' h w x
 | .none,_,_,e,r=>by cases e;exact r
 | .bool b,_,_,e,r=>by cases e;exact r
 | .int _ i,_,_,zh3,r=>by
  obtain⟨y,e⟩:=zh3;subst e;exact r
 | .str _ s,_,_,zh3,r=>by
  obtain⟨y,e⟩:=zh3;subst e;exact r
 | .tup vs,_,_,zh3,zh4=>by
  obtain⟨ws,e,q⟩:=zh3;obtain⟨a,z',e2,t,r⟩:=zh4;subst e;exact⟨a,z',e2,t,RVs.rep g q r⟩
 | .obj i,_,_,zh3,zh4=>by
  obtain⟨j,e,e2⟩:=zh3;obtain⟨a,e3,e4⟩:=zh4;subst e2;rw[<-dP] at e3;exact⟨a,by rw[<-dP];exact g i j e a e3,e4⟩
 | .val x,_,_,e,r=>by cases e;exact r
 | .bi k,_,_,e,r=>by cases e;exact r
theorem RVs.rep{f:Nat->Option Nat}{ρ ρ':List Addr}{h:Heap}(g:∀i j,f i=some j->∀a,nth ρ i=some a->nth ρ' j=some a):∀{v w:List V} {x:List Value},RVs f v w->dy ρ h v x->dy ρ' h w x
 |[],_,_,e,r=>by cases e;exact r
 |v::vs,_,_,zh3,zh4=>by
  obtain⟨w,ws,e,q,qs⟩:=zh3;obtain⟨x,xs,e2,r,rs⟩:=zh4;subst e;exact⟨x,xs,e2,RV.rep g q r,RVs.rep g qs rs⟩
end
theorem RVs.rev{f:Nat->Option Nat}:∀{vs ws:List V},RVs f vs ws->RVs f vs.reverse ws.reverse:=by
 have app:∀{a b c d:List V},RVs f a b->RVs f c d->RVs f (a++c) (b++d):=by
  intro a
  induction a with
  |nil=>intro b c d e q;cases e;exact q
  |cons x a ih=>intro b c d ⟨w,ws,e,q,r⟩ z;subst e;exact⟨w,_,rfl,q,ih r z⟩
 intro vs
 induction vs with
 |nil=>intro ws e;cases e;exact rfl
 |cons v vs ih=>
  intro ws ⟨w,ws',e,q,r⟩;subst e;rw[bu,bu];exact app (ih r) ⟨w,[],rfl,q,rfl⟩
theorem RFs.rep{f:Nat->Option Nat}{ρ ρ':List Addr}{h:Heap}{nm:Nat->Str}(g:∀i j,f i=some j->∀a,nth ρ i=some a->nth ρ' j=some a):∀{v w:List (Nm×V)} {x:List DictEntry},RFs f v w->hU nm ρ h v x->hU nm ρ' h w x
 |[],_,_,e,r=>by cases e;exact r
 |(n,v)::vs,_,_,zh3,zh4=>by
  obtain⟨w,ws,e,q,qs⟩:=zh3;obtain⟨hs,t,x,r,e2,a,b⟩:=zh4;subst e;exact⟨hs,t,x,r,e2,RV.rep g q a,RFs.rep g qs b⟩
theorem RO.rep{f:Nat->Option Nat}{ρ ρ':List Addr}{h:Heap}{nm:Nat->Str}{P:PW}(g:∀i j,f i=some j->∀a,nth ρ i=some a->nth ρ' j=some a){o o':O}{a:Addr}(q:RO f o o')(r:j5 nm P ρ h a o):j5 nm P ρ' h a o'/\foot a o'=foot a o:=by
 cases o with
 |frame b=>
  obtain⟨b',rfl,z⟩:=q;obtain⟨m,hm,y⟩:=r;refine⟨⟨m,hm,λn v e=>?_⟩,rfl⟩;obtain⟨w,e1,q⟩:=z n v e;obtain⟨x,e2,vx⟩:=y n w e1;exact⟨x,e2,q.rep g vx⟩
 |list y xs=>
  obtain⟨z',n,e,vs⟩:=r;rcases q with⟨y,ys,rfl,q⟩ | ⟨top,rfl,q⟩ | rfl
  .exact⟨⟨z',n,e,q.rep g vs⟩,rfl⟩
  .exact⟨⟨z',n,e,q.rep g vs⟩,rfl⟩
  .exact⟨⟨_,e,λq=>absurd (cq q) ()⟩,rfl⟩
 |stk top u'=>
  obtain⟨z',n,e,vs⟩:=r;rcases q with⟨top',rfl,q⟩ | rfl | ⟨rfl,y,ys,rfl,q⟩
  .exact⟨⟨z',n,e,q.rev.rep g vs⟩,rfl⟩
  .exact⟨⟨_,e,λq=>absurd (cq q) ()⟩,rfl⟩
  .exact⟨⟨z',n,e,q.rep g vs⟩,rfl⟩
 |inst C fs=>
  obtain⟨fs',rfl,q⟩:=q;obtain⟨es,n,h0,h1,h2,z⟩:=r;exact⟨⟨es,n,h0,h1,h2,q.rep g z⟩,rfl⟩
 |dict ks=>
  cases q;exact⟨r,rfl⟩
 |any=>
  cases q;exact⟨r,rfl⟩
structure L2(l:List Nat)(f:Nat->Option Nat)(σ σ':List O):Prop where
 len:σ'.length=l.length
 back:∀i j,f i=some j->nth l j=some i
 cell:∀j i,nth l j=some i->∃o o',nth σ i=some o/\nth σ' j=some o'/\RO f o o'
 inj:∀i j k,nth l i=some k->nth l j=some k->i=j
def jx{α:Type}(d:α)(l:List Nat)(ρ:List α):List α:=l.map λi=>(nth ρ i).getD d
theorem pL{α:Type}{d:α}:∀{l:List Nat} {ρ:List α} {j:Nat} {a:α},nth (jx d l ρ) j=some a->∃i,nth l j=some i/\(nth ρ i).getD d=a
 |[],_,_,_,e=>by cases e
 |i::l,ρ,0,a,e=>⟨i,rfl,ac e⟩
 |i::l,ρ,j+1,a,e=>pL (l:=l) (ρ:=ρ) (j:=j) e
theorem jh{α:Type}{d:α}:∀{l:List Nat} {ρ:List α} {j i:Nat},nth l j=some i->nth (jx d l ρ) j=some ((nth ρ i).getD d)
 |[],_,_,_,e=>by cases e
 |k::l,ρ,0,i,e=>by cases e;rfl
 |k::l,ρ,j+1,i,e=>jh (l:=l) (ρ:=ρ) (j:=j) e
theorem kB.sel{f:Nat->Option Nat}{ρ:List Addr}{h:Heap}{nm:Nat->Str}{P:PW}{h₀:Heap}{σ σ':List O}{l:List Nat}(R:kB nm P h₀ ρ σ h)(S:L2 l f σ σ'):kB nm P h₀ (jx 0 l ρ) σ' h/\∀x∈dA (jx 0 l ρ) σ',x∈dA ρ σ:=by
 have at_:∀j i o,nth l j=some i->nth σ i=some o->∃a,nth ρ i=some a/\nth (jx 0 l ρ) j=some a:=λj i o e1 e2=>by
  obtain⟨a,ha⟩:=jI R.len.symm e2;exact⟨a,ha,by rw[jh e1,ha];rfl⟩
 have g:∀i j,f i=some j->∀a,nth ρ i=some a->nth (jx 0 l ρ) j=some a:=λi j e a ha=>by
  rw[jh (S.back i j e),ha];rfl
 have cell:∀j a o',nth (jx 0 l ρ) j=some a->nth σ' j=some o'->∃i o,nth l j=some i/\nth σ i=some o/\nth ρ i=some a/\RO f o o':=λj a o' e1 e2=>by
  obtain⟨i,e3,_⟩:=pL e1;obtain⟨o,o'',e4,e5,q⟩:=S.cell j i e3;rw[e2] at e5;cases e5;obtain⟨b,hb,e6⟩:=at_ j i o e3 e4;rw[e1] at e6;cases e6;exact⟨i,o,e3,e4,hb,q⟩
 have ft:∀x∈dA (jx 0 l ρ) σ',x∈dA ρ σ:=λx m=>by
  obtain⟨j,a,o',e1,e2,m⟩:=dC.mp m;obtain⟨i,o,e3,e4,e5,q⟩:=cell j a o' e1 e2;exact dC.mpr ⟨i,a,o,e5,e4,by rw[<-(q.rep g (R.rep i a o e5 e4)).2];exact m⟩
 refine⟨⟨?_,λj a o' e1 e2=>?_,λi j a b o q e1 e2 e3 e4 ne x m=>?_,λx m=>R.new x (ft x m),R.old⟩,ft⟩
 .unfold jx;rw[List.length_map,S.len]
 .obtain⟨i,o,e3,e4,e5,q⟩:=cell j a o' e1 e2
  exact(q.rep g (R.rep i a o e5 e4)).1
 .obtain⟨i',o1,f1,f2,f3,q1⟩:=cell i a o e1 e2
  obtain⟨j',o2,g1,g2,g3,q2⟩:=cell j b q e3 e4;rw[(q1.rep g (R.rep i' a o1 f3 f2)).2] at m;rw[(q2.rep g (R.rep j' b o2 g3 g2)).2];refine R.apart i' j' a b o1 o2 f3 f2 g3 g2 (λe=>ne (S.inj i j i' f1 (e▸g1))) x m
structure EL(hm:Heap)(fs:List Addr)(a:Addr)(h:Heap):Prop where
 same:∀b o,hm.get? b=some o->b∉fs->b≠a->h.get? b=some o
 slots:∀b o,hm.get? b=some o->b≠a->∃sl,h.get? b=some {o with slots:=sl}
 exc:∃oe vs vs',hm.get? a=some oe/\oe.data= .fields vs/\h.get? a=some {oe with data:=.fields vs'}/\1<vs'.size/\
  (vs'[1]?=some .none\/∃T oT ts,vs'[1]?=some (.ref T)/\hm.get? T=none/\h.get? T=some oT/\oT.data= .fields ts/\ts[3]?=some .none)
section
variable{hm:Heap} {fs:List Addr} {outer:List Env}
theorem EL.start{a:Addr}{oe:Obj}{vs:Array Value}(e:hm.get? a=some oe)(hd:oe.data= .fields vs)(h1:vs[1]?=some .none):EL hm fs a hm:=
 ⟨λI I x I I=>x,λI o x I=>⟨o.slots,x⟩,oe,vs,vs,e,hd,by rw[e,<-hd],(bT.mp h1).1,.inl h1⟩
theorem mW{M:Model}{A:Around}{E:Value->Shared->Prop}{s:Shared}{base:Heap}{env:Env}{L a:Addr}{oe:Obj}{vs vs':Array Value}{head:Value}{hadNext:Bool}{Q:Unit->Shared->Prop}
  (hfr:A.frames=some (env::outer)) (hl:hm.FunFrames base (env::outer)) (hf:env.frame=some L) (hin:∀b∈(env::outer).filterMap (·.frame),b∈fs)
  (h1:∀b o,hm.get? b=some o->b∉fs->b≠a->s.heap.get? b=some o) (h2:∀b o,hm.get? b=some o->b≠a->∃sl,s.heap.get? b=some {o with slots:=sl})
  (e0:hm.get? a=some oe) (hd:oe.data= .fields vs) (e1:s.heap.get? a=some {oe with data:=.fields vs'}) (hz:1<vs'.size)
  (h:∀h',EL hm fs a h'->Q Unit.unit {s with heap:=h'}):
  wpAny M A (do let x <-frameOf env;let pl <-entryPlaceOf L hadNext;let b <-EntryCells.newEntry head x .none (rawInt L) .none pl;setField (.ref a) 1 b) (λI s'=>wpAny M A (setFlight (.ref a) none) Q E s') E s:=by
 have hl':s.heap.FunFrames base (env::outer):=hl.of_keeps λb o e hn=>by
  obtain⟨sl,q⟩:=h2 b o e λz=>by subst z;rw[e0] at e;cases e;exact hn _ hd
  exact⟨_,q,rfl⟩
 have na:a∉(env::outer).filterMap (·.frame):=λm=>by
  obtain⟨_,o,e,hn⟩:=hl.mem m;rw[e0] at e;cases e;exact hn _ hd
 refine aa (wpAny_frameOf_fun hfr hl' hf λg hs=>?_);refine aa (wpAny_entryPlaceOf λpl hpl=>?_);unfold EntryCells.newEntry newFields;refine aa (wpAny_newObj_type ?_ (hpl.sizeOk5 _ _ _ _ _));have g1:g.get? a=some {oe with data:=.fields vs'}:=(hs.2.1 a na).trans e1;generalize hT:({cls:=.type "traceback",dict:=none,data:=.fields ([head,.ref L,.none,rawInt L,.none]++(if pl.isEmpty then List.replicate 6 Value.none else pl)).toArray}:Obj)=oT;have g2:(g.push oT).get? a=some {oe with data:=.fields vs'}:=ae _ g1;have gT:(g.push oT).get? g.objs.size=some oT:=by subst hT;exact aB _ rfl
 have ne:g.objs.size≠a:=Nat.ne_of_gt (ay g1);refine wpAny_setField g2 rfl hz ?_;have g3:=bM (Obj.mapFields (·.setIfInBounds 1 (Value.ref g.objs.size))) g2 rfl;have gT3:((g.push oT).update a (Obj.mapFields (·.setIfInBounds 1 (Value.ref g.objs.size)))).get? g.objs.size=some oT:=(aL _ _ (Ne.symm ne)).trans gT;have three:3<([head,.ref L,.none,rawInt L,.none]++(if pl.isEmpty then List.replicate 6 Value.none else pl)).toArray.size:=by
  simp only[aI,ai,bJ,bI];omega
 unfold setFlight;refine aa (cD (x:=.ref g.objs.size) g3 rfl (by simp [hz]) ?_);rw[if_pos (show(Value.ref g.objs.size != Value.none)=true from by simp)];have dT:oT.data= .fields ([head,.ref L,.none,rawInt L,.none]++(if pl.isEmpty then List.replicate 6 Value.none else pl)).toArray:=by subst hT;rfl
 refine wpAny_setField gT3 dT three (h _ ?_);have up:∀b o,b≠a->g.get? b=some o->(((g.push oT).update a (Obj.mapFields (·.setIfInBounds 1 (Value.ref g.objs.size)))).update g.objs.size (Obj.mapFields (·.setIfInBounds 3 ((none:Option Addr).elim Value.none λf=>rawInt f)))).get? b=some o:=λb o hb e=>by
  rw[aL _ _ (Nat.ne_of_gt (ay e)),aL _ _ (Ne.symm hb)];exact ae _ e
 refine⟨λb o e hb hba=>?_,λb o e hba=>?_,oe,vs,vs'.setIfInBounds 1 (Value.ref g.objs.size),e0,hd,?_,by simpa using hz,.inr ⟨g.objs.size,_,_,by simp [hz],?_,bM _ gT3 (Obj.isFreed_of_fields (Obj.data_mapFields dT _)),Obj.data_mapFields dT _,?_⟩⟩
 .exact up b o hba ((hs.2.1 b λm=>hb (hin b m)).trans (h1 b o e hb hba))
 .obtain⟨sl,q⟩:=h2 b o e hba
  obtain⟨sl2,q2⟩:=hs.2.2 b _ q;exact⟨sl2,up b _ hba q2⟩
 .rw[aL _ _ ne,g3];rfl
 .cases q:hm.get? g.objs.size with
  |none=>rfl
  |some o=>
   by_cases z:g.objs.size=a
   .exact absurd z ne
   .obtain⟨sl,q1⟩:=h2 _ _ q z
    obtain⟨sl2,q2⟩:=hs.2.2 _ _ q1;exact absurd (ay q2) (bD _)
 .rw[Array.getElem?_setIfInBounds_self_of_lt three];rfl
theorem xW{M:Model}{A:Around}{E:Value->Shared->Prop}{s:Shared}{base:Heap}{env:Env}{L a:Addr}{Q:Unit->Shared->Prop}
  (hfr:A.frames=some (env::outer)) (hl:hm.FunFrames base (env::outer)) (hf:env.frame=some L) (hin:∀b∈(env::outer).filterMap (·.frame),b∈fs)
  (F:EL hm fs a s.heap) (h:∀h',EL hm fs a h'->Q Unit.unit {s with heap:=h'}):wpAny M A (leaving env (.ref a)) Q E s:=by
 obtain⟨h1,h2,oe,vs,vs',e0,hd,e1,hz,hT⟩:=F;unfold leaving noteFrame;simp only[hf];rcases hT with h3 | ⟨T,oT,ts,h3,hn,eT,dT,h4⟩
 .refine aa (aa (cD e1 rfl h3 ?_))
  rw[if_neg ()];exact mW hfr hl hf hin h1 h2 e0 hd e1 hz h
 .refine aa (aa (cD e1 rfl h3 ?_))
  rw[if_pos (show(Value.ref T != Value.none)=true from by simp)];refine aa (cD eT dT h4 ?_);rw[if_neg (show¬((Value.none==rawInt L)=true) from by simp [rawInt])];refine aa (wpAny_setField eT dT (bT.mp h4).1 ?_);have ne:∀b o,hm.get? b=some o->T≠b:=λb o e z=>by subst z;rw[hn] at e;cases e
  refine mW (vs':=vs') hfr hl hf hin (λb o e m hb=>?_) (λb o e hb=>?_) e0 hd ?_ hz h
  .exact(aL _ _ (ne b o e)).trans (h1 b o e m hb)
  .obtain⟨sl,q⟩:=h2 b o e hb
   exact⟨sl,(aL _ _ (ne b o e)).trans q⟩
  .exact(aL _ _ (ne a oe e0)).trans e1
end
structure iZ(h₀:Heap)(l:List Env)(A:Around)(ρ:List Addr)(σ:List O)(h:Heap):Prop where
 fr:A.frames=some l
 ff:h.FunFrames h₀ l
 ap:∀L∈l.filterMap (·.frame),L∈dA ρ σ->∃i m,nth ρ i=some L/\nth σ i=some (.frame m)
theorem ja{h h' base:Heap}:∀{l:List Env},(∀L∈l.filterMap (·.frame),∀o,h.get? L=some o->(∀vs,o.data≠ .fields vs)->∃o',h'.get? L=some o'/\∀vs,o'.data≠ .fields vs)->h.FunFrames base l->h'.FunFrames base l
 |[],_,_=>trivial
 |env::r,k,zh2=>by
  obtain⟨hk,⟨L,o,hf,hn,ho,hd⟩,hr⟩:=zh2;have mem:∀L∈r.filterMap (·.frame),L∈(env::r).filterMap (·.frame):=λL m=>by
   rw[a8,hf];exact .tail _ m
  obtain⟨o',h1,h2⟩:=k L (by rw[a8,hf];exact .head _) o ho hd;exact⟨hk,⟨L,o',hf,hn,h1,h2⟩,ja (λL m=>k L (mem L m)) hr⟩
section
variable{c:Cx} {l:List Env} {ρ ρ':List Addr} {σ σ':List O} {s s':Shared}
theorem iZ.res{A:Around}(F:iZ c.h₀ l A ρ σ s.heap)(r:c.Rs ρ σ s ρ' σ' s'):iZ c.h₀ l A ρ' σ' s'.heap:=by
 have key:∀L∈l.filterMap (·.frame),L∈dA ρ σ->∃i m,nth ρ' i=some L/\nth σ' i=some (.frame m):=λL m q=>by
  obtain⟨i,b,e1,e2⟩:=F.ap L m q;obtain⟨b',e3⟩:=r.frm i b e2;exact⟨i,b',r.grow _ _ e1,e3⟩
 refine⟨F.fr,ja (λL m o e hn=>?_) F.ff,λL m q=>?_⟩
 .by_cases q:L∈dA ρ σ
  .obtain⟨i,b,e1,e2⟩:=key L m q
   obtain⟨m',⟨o',es,ep,ho,hd,_⟩,_⟩:=r.rel.at e1 e2;exact⟨o',ho,λvs z=>by rw[hd] at z;injection z⟩
  .exact⟨o,r.keep L o e q,hn⟩
 .by_cases z:L∈dA ρ σ
  .exact key L m z
  .obtain⟨_,o,e,_⟩:=F.ff.mem m
   rcases r.fresh L q with y | y
   .exact absurd y z
   .rw[e] at y;injection y
theorem iZ.push{A:Around}{h h':Heap}{env:Env}{b:List (Nm×V)}(F:iZ c.h₀ l A ρ σ h)(R':c.R (ρ++[env.locals]) (σ++[.frame b]) h')(hf:env.frame=some env.locals)(hk:env.scope.kind= .function)(hlen:ρ.length=σ.length)
  (kp:∀b o,h.get? b=some o->h'.get? b=some o) (hn:h.get? env.locals=none):iZ c.h₀ (env::l) (A.deeper env) (ρ++[env.locals]) (σ++[.frame b]) h':=by
 have e1:nth (ρ++[env.locals]) ρ.length=some env.locals:=gr _ _;have e2:nth (σ++[.frame b]) ρ.length=some (.frame b):=by rw[hlen];exact gr _ _
 obtain⟨m',⟨o',es,ep,ho,hd,_⟩,_⟩:=R'.at e1 e2;refine⟨Around.frames_deeper F.fr,⟨by rw[hk];decide,⟨_,o',hf,R'.new _ (dC.mpr ⟨_,_,_,e1,e2,.head _⟩),ho,λvs z=>by rw[hd] at z;injection z⟩,ja (λL I o e hn=>⟨o,kp L o e,hn⟩) F.ff⟩,λL m q=>?_⟩;rw[a8,hf] at m;rcases aD.mp m with rfl | m
 .exact⟨_,_,e1,e2⟩
 .rcases(l9 env.locals (.frame b) hlen L).mp q with q | q
  .obtain⟨i,b',e1,e2⟩:=F.ap L m q
   exact⟨i,b',jE _ e1,jE _ e2⟩
  .cases aj.mp q
   obtain⟨_,o,e,_⟩:=F.ff.mem m;rw[hn] at e;injection e
abbrev eW:=Heap->List Addr->Addr->Prop
def d9(c:Cx)(EI:eW)(l:List Env)(ρ:List Addr)(σ:List O)(s:Shared)(σ':List O)(ρ':List Addr)(a:Addr)(s':Shared):Prop:=
 ∃sm fs,c.Rs ρ σ s ρ' σ' sm/\EL sm.heap fs a s'.heap/\EI sm.heap fs a/\(∀b∈l.filterMap (·.frame),b∈fs)/\sm.heap.FunFrames c.h₀ l/\
  (∀b∈fs,b∈dA ρ' σ'->∃i m,nth ρ' i=some b/\nth σ' i=some (.frame m))/\a∉dA ρ' σ'/\(s'.gens=sm.gens/\s'.os=sm.os)/\
  (∀b∈fs,b∈l.filterMap (·.frame)\/s.heap.get? b=none\/b∈dA ρ σ)/\(s.heap.get? a=none\/a∈dA ρ σ)
theorem wD{ρ9:List Addr}{σ0:List O}{s₀:Shared}(r:c.Rs ρ9 σ0 s₀ ρ σ s){b:Addr}(h:s.heap.get? b=none\/b∈dA ρ σ):s₀.heap.get? b=none\/b∈dA ρ9 σ0:=by
 rcases h with h | h
 .by_cases m:b∈dA ρ9 σ0
  .exact .inr m
  .cases e:s₀.heap.get? b with
   |none=>exact .inl rfl
   |some o=>have:=r.keep b o e m;rw[h] at this;injection this
 .exact(r.fresh b h).symm
theorem d9.after{EI:eW}{ρ9:List Addr}{σ0:List O}{s₀:Shared}{a:Addr}(r:c.Rs ρ9 σ0 s₀ ρ σ s)(x:d9 c EI l ρ σ s σ' ρ' a s'):d9 c EI l ρ9 σ0 s₀ σ' ρ' a s':=by
 obtain⟨sm,fs,h1,h2,h3,h4,h5,h6,h7,h8,h9,h10⟩:=x;exact⟨sm,fs,r.trans h1,h2,h3,h4,h5,h6,h7,h8,λb m=>(h9 b m).imp id (wD (c:=c) r),wD (c:=c) r h10⟩
theorem d9.leave{EI:eW}{A:Around}{env:Env}{L:Addr}{a:Addr}{E:Value->Shared->Prop}{Q:Unit->Shared->Prop}(x:d9 c EI (env::l) ρ σ s σ' ρ' a s')
  (hfr:A.frames=some (env::l)) (hf:env.frame=some L) (hL:s.heap.get? L=none\/L∈dA ρ σ) (q:∀s'',d9 c EI l ρ σ s σ' ρ' a s''->Q Unit.unit s''):wpAny c.M A (leaving env (.ref a)) Q E s':=by
 obtain⟨sm,fs,h1,h2,h3,h4,h5,h6,h7,h8,h9,h10⟩:=x;refine xW hfr h5 hf h4 h2 λh' F=>q _ ⟨sm,fs,h1,F,h3,λb m=>h4 b ?_,h5.2.2,h6,h7,h8,λb m=>?_,h10⟩
 .rw[a8,hf];exact .tail _ m
 .rcases h9 b m with z | z
  .rw[a8,hf] at z
   rcases aD.mp z with rfl | z
   .exact .inr hL
   .exact .inl z
  .exact .inr z
structure Rv where
 c:Nat->List V->St->Option St
 ss:List MS->Nat->St->Option St
structure sD where
 orc:Nat->Bool
 spec:Nat->List V->List O->List O->Prop
 specL:MS->Nat->List O->List O->Prop
def Ib(P:tV)(e:ME->Nat->St->Option (V×St))(fi:Nat)(f:ME)(as:List ME)(st:St):Option ((Nat×List V)×St):=
 ob (e f fi st) λg st=>match g with
  | .val x=>match x with
   | .ref a=>od (P.cls a) (λI=>none) (ob (Ho e fi as st) λvs st=>some ((a,vs),st))
   |_=>none
  |_=>none
def rE(P:tV)(ev:Ev)(ih:Rv)(m:ME)(fi:Nat)(st:St):Option St:=match m with
 | .call f as=>ob (Ib P ev.e fi f as st) λq st=>ih.c q.1 q.2 st
 | .meth o n as=>ob (EQ P ev.e fi o n as st) λq st=>ih.c q.1 q.2 st
 |_=>none
def JU(st:St)(f:List O->List Ch->Option St):Option St:=match st.ch with
 |[]=>none
 |h::r=>match h with
  | .r os=>f os r
  |_=>none
def rX(P:tV)(_R:sD)(ev:Ev)(ih:Rv)(x:MS)(fi:Nat)(st:St):Option St:=match x with
 | .expr e=>rE P ev ih e fi st
 | .asg _ e=>rE P ev ih e fi st
 | .asgT _ e=>rE P ev ih e fi st
 | .ret e=>on e λe=>rE P ev ih e fi st
 | .ite t a b=>ob (ev.t t fi st) λk st=>oi k (ih.ss a fi st) (ih.ss b fi st)
 | .while t b=>JU st λos r=>some ⟨os,r,_R.specL (.while t b) fi st.os os::st.cs⟩
 | .for n it b=>JU st λos r=>some ⟨os,r,_R.specL (.for n it b) fi st.os os::st.cs⟩
 |_=>none
def MW(P:tV)(R:sD)(ev:Ev)(ih:Rv)(l:List MS)(fi:Nat)(st:St):Option St:=match l with
 |[]=>none
 |x::r=>od (rX P R ev ih x fi st) some (ob (jk P ev x fi st) λf st=>match f with
  | .next=>ih.ss r fi st
  |_=>none)
def rC(P:tV)(R:sD)(ih:Rv)(f:Nat)(as:List V)(st:St):Option St:=oi (R.orc f)
 (JU st λos r=>some ⟨os,r,R.spec f as st.os os::st.cs⟩)
 (on (P.fn f) λq=>on (qy q.1 as) λb=>ih.ss q.2 st.os.length ⟨st.os++[.frame b],st.ch,st.cs⟩)
theorem rj{α β:Type}{o:Option (α×St)}{f:α->St->Option β}{b:β}(h:ob o f=some b):∃a s,o=some (a,s)/\f a s=some b:=match o,h with
 |some (a,s),h=>⟨a,s,rfl,h⟩
theorem wW{st C':St}{f:List O->List Ch->Option St}(h:JU st f=some C'):∃os r,f os r=some C':=by
 obtain⟨os,ch,cs⟩:=st;cases ch with
 |nil=>exact nomatch h
 |cons x r=>cases x with
  |r os=>exact⟨os,r,h⟩
  |_=>exact nomatch h
def tP(P:tV)(R:sD):Nat->Rv
 |0=>⟨λI I I=>none,λI I I=>none⟩
 |n+1=>⟨rC P R (tP P R n),MW P R (ev P n) (tP P R n)⟩
end
section
variable(c:Cx) (EI:eW)
def zR(n:Nat)(m:ME)(fi:Nat)(os H':List O):Prop:=
 ∀(A:Around) (env:Env) (x:Expr) (s:Shared) (ρ:List Addr) (l:List Env) (Q E:Value->Shared->Prop),ee A (n+c.P.room)->dE env fi ρ->dO c.nm env.scope m x->c.R ρ os s.heap->e9 c ρ->iZ c.h₀ l A ρ os s.heap->
  (∀ρ' s' a,d9 c EI l ρ os s H' ρ' a s'->E (.ref a) s')->wpAny c.M A (eval x env) Q E s
def Jn(n:Nat)(f:ME->Nat->St->Option St):Prop:=∀m fi st C',f m fi st=some C'->All C'.cs->All st.cs/\zR c EI n m fi st.os C'.os
def Gi(n:Nat)(m:MS)(fi:Nat)(os H':List O):Prop:=
 ∀(A:Around) (env:Env) (x:Stmt) (s:Shared) (ρ:List Addr) (l:List Env) (Q:Flow->Shared->Prop) (E:Value->Shared->Prop),ee A (n+c.P.room)->dE env fi ρ->gI c.nm env.scope m x->c.R ρ os s.heap->e9 c ρ->iZ c.h₀ l A ρ os s.heap->PassesOwn c.M A env E->
  (∀ρ' s' a,d9 c EI l ρ os s H' ρ' a s'->E (.ref a) s')->wpAny c.M A (exec x env) Q E s
def CQ(n:Nat)(f:MS->Nat->St->Option St):Prop:=∀m fi st C',f m fi st=some C'->All C'.cs->All st.cs/\Gi c EI n m fi st.os C'.os
def DQ(n:Nat)(m:List MS)(fi:Nat)(os H':List O):Prop:=
 ∀(A:Around) (env:Env) (x:List Stmt) (s:Shared) (ρ:List Addr) (l:List Env) (Q:Flow->Shared->Prop) (E:Value->Shared->Prop),ee A (n+c.P.room)->dE env fi ρ->iT c.nm env.scope m x->c.R ρ os s.heap->e9 c ρ->iZ c.h₀ l A ρ os s.heap->PassesOwn c.M A env E->
  (∀ρ' s' a,d9 c EI l ρ os s H' ρ' a s'->E (.ref a) s')->wpAny c.M A (execs x env) Q E s
def pE(n:Nat)(f:List MS->Nat->St->Option St):Prop:=∀m fi st C',f m fi st=some C'->All C'.cs->All st.cs/\DQ c EI n m fi st.os C'.os
def eU(f:Nat)(vs:List V)(os H':List O):Prop:=
 ∀(A:Around) (xs:List Value) (s:Shared) (ρ:List Addr) (l:List Env) (E:Value->Shared->Prop),ee A c.P.room->c.R ρ os s.heap->e9 c ρ->iZ c.h₀ l A ρ os s.heap->dy ρ s.heap vs xs->
  (∀ρ' s' a,d9 c EI l ρ os s H' ρ' a s'->E (.ref a) s')->codeAny c.M A (.call (.ref f) ⟨xs,[]⟩) (λr s'=>match r with | .ok _=>False | .error e=>E e s') s
def mK(m:MS)(fi:Nat)(os H':List O):Prop:=
 ∀(A:Around) (env:Env) (x:Stmt) (s:Shared) (ρ:List Addr) (l:List Env) (Q:Flow->Shared->Prop) (E:Value->Shared->Prop),ee A c.P.room->dE env fi ρ->gI c.nm env.scope m x->c.R ρ os s.heap->e9 c ρ->iZ c.h₀ l A ρ os s.heap->PassesOwn c.M A env E->
  (∀ρ' s' a,d9 c EI l ρ os s H' ρ' a s'->E (.ref a) s')->wpAny c.M A (exec x env) Q E s
def FJ(n:Nat)(a:Nat)(vs:List V)(os H':List O):Prop:=
 ∀(A:Around) (xs:List Value) (s:Shared) (ρ:List Addr) (l:List Env) (E:Value->Shared->Prop),ee A (n+c.P.room)->c.R ρ os s.heap->e9 c ρ->iZ c.h₀ l A ρ os s.heap->dy ρ s.heap vs xs->
  (∀ρ' s' a,d9 c EI l ρ os s H' ρ' a s'->E (.ref a) s')->codeAny c.M A (.call (.ref a) ⟨xs,[]⟩) (λr s'=>match r with | .ok _=>False | .error e=>E e s') s
def vM(n:Nat)(f:Nat->List V->St->Option St):Prop:=∀a vs st C',f a vs st=some C'->All C'.cs->All st.cs/\keepIn c.K (.ref a)=true/\FJ c EI n a vs st.os C'.os
structure Ai(R:sD):Prop where
 spec:∀f vs os H',R.spec f vs os H'->eU c EI f vs os H'
 specK:∀f,R.orc f=true->keepIn c.K (.ref f)=true
 specL:∀m fi os H',R.specL m fi os H'->mK c EI m fi os H'
end
theorem zm{R':Result->Shared->Prop}{E:Value->Shared->Prop}{Q:Value->Shared->Prop}{M:Model}{A:Around}{cd:Code}{s:Shared}
  (h:codeAny M A cd (λr s'=>match r with | .ok _=>False | .error e=>E e s') s):codeAny M A cd (λr s'=>match r with | .ok (.ret v)=>Q v s' | .ok _=>False | .error e=>E e s') s:=
 codeAny_mono h λr s' z=>by
  rcases r with e | fl
  .exact z
  .exact z.elim
theorem I3{c:Cx}{n:Nat}(X:c.Ok){e:ME->Nat->St->Option (V×St)}(He:SE c n e){fi:Nat}{f:ME}{as:List ME}{st:St}:oP (Ib c.P e fi f as st) (K0 st (LP c n (.call f as) fi st.os)):=
 sq (He.o f fi st) λg st1=>by
  cases g with
  |val x=>cases x with
   |ref a=>
    refine LN (λI I=>trivial) λI=>sq (j7 He as st1) λvs st2=>og λk2 l2 A env x s ρ Q E rm en ck R0 ad kf h=>?_;obtain⟨f',as',p,rfl,hn,c1,c2⟩:=mH _ _ ck;obtain⟨id,np,rfl⟩:∃id np,f'= .Name id np:=by
     cases f'<;>first | exact⟨_,_,rfl⟩ | injection hn
    refine bH (l2 A env _ s ρ _ _ rm en c1 R0 ad λρ1 s1 y1 r1 v1=>?_);obtain⟨rfl,_⟩:=v1;refine callWith_of (P:=λh=>c.K.In h) (by rw[fV c2];rfl) (keeps_K kf) (gp c2 ?_);exact k2 A env p as' s1 ρ1 _ _ rm (en.grow r1.grow) c2 r1.rel (eB.trans ad r1.grow) λρ2 s2 ys r2 v2=>⟨X.In r2.rel,cR (h ρ2 s2 ys (r1.trans r2) v2)⟩
   |_=>exact N4
  |_=>exact N4
theorem oy{c:Cx}{EI:eW}{ih:Rv}{ev:Ev}{n:Nat}(X:c.Ok)(He:SE c n ev.e)(Hc:vM c EI n ih.c):Jn c EI (n+1) (rE c.P ev ih):=by
 intro m fi st C' h hc;have fin:∀{q st2},K0 st (LP c n m fi st.os) q st2->ih.c q.1 q.2 st2=some C'->All st.cs/\zR c EI (n+1) m fi st.os C'.os:=λk h=>by
  obtain⟨j1,j0,j2⟩:=Hc _ _ _ _ h hc;exact⟨(k j1).1,λA env x s ρ l Q E rm en ck R0 ad fr q=>(k j1).2 A env x s ρ Q E (iQ rm) en ck R0 ad j0 λρ2 s2 ys r2 v2=>zm (R':=λI I=>True) (j2 A ys s2 ρ2 l E (iQ rm) r2.rel (eB.trans ad r2.grow) (fr.res r2) v2 λρ3 s3 a x=>q ρ3 s3 a (x.after r2))⟩
 cases m with
 |call f as=>
  obtain⟨q,st2,e1,h⟩:=rj h;exact fin ((I3 X He).out e1) h
 |meth o nn as=>
  obtain⟨q,st2,e1,h⟩:=rj h;exact fin ((D4 X He).out e1) h
 |_=>exact nomatch(show none=some _ from h)
nonrec theorem Hw{c:Cx}{EI:eW}{R:sD}{ih:Rv}{ev:Ev}{n:Nat}(X:c.Ok)(Y:Ai c EI R)(He:SE c n ev.e)(Ht:ST c n ev.t)(Hc:vM c EI n ih.c)(Hs:pE c EI n ih.ss):CQ c EI (n+1) (rX c.P R ev ih):=by
 intro m fi st C' h hc;have loop:∀{m},(JU st λos r=>some ⟨os,r,R.specL m fi st.os os::st.cs⟩)=some C'->All st.cs/\mK c EI m fi st.os C'.os:=λ{m} h=>by
  obtain⟨os,r,h⟩:=wW h;cases h;exact⟨hc.tail,Y.specL m _ _ _ hc.head⟩
 cases m with
 |expr e=>
  obtain⟨k1,k2⟩:=oy X He Hc _ _ _ _ h hc;refine⟨k1,λA env x s ρ l Q E rm en ck R0 ad fr pe q=>?_⟩;obtain⟨v',p,rfl,hn,c1⟩:=xC _ _ ck;exact wpAny_Expr (k2 A env v' s ρ l _ E rm en c1 R0 ad fr q) (by unfold interactive;rw[en.kind];rfl) (gA hn _ _ _)
 |asg nn e=>
  obtain⟨k1,k2⟩:=oy X He Hc _ _ _ _ h hc;refine⟨k1,λA env x s ρ l Q E rm en ck R0 ad fr pe q=>?_⟩;obtain⟨p,v',p',rfl,hl,hn,c1⟩:=vC _ _ ck;exact cA (k2 A env v' s ρ l _ E rm en c1 R0 ad fr q) (gA hn _ _ _)
 |asgT ns e=>
  obtain⟨k1,k2⟩:=oy X He Hc _ _ _ _ h hc;refine⟨k1,λA env x s ρ l Q E rm en ck R0 ad fr pe q=>?_⟩;obtain⟨ts,k,p,v',p',rfl,hns,hn,hnt,c1⟩:=sr _ _ ck;exact cC (k2 A env v' s ρ l _ E rm en c1 R0 ad fr q) (mX hn _ _ _) (ky hnt _)
 |ret e=>
  obtain⟨e,rfl,h⟩:=oV h;obtain⟨k1,k2⟩:=oy X He Hc _ _ _ _ h hc;refine⟨k1,λA env x s ρ l Q E rm en ck R0 ad fr pe q=>?_⟩;obtain⟨v',p,rfl,c1⟩:=vq _ _ ck;obtain⟨y,rfl,c1⟩:=pV _ _ c1;exact wpAny_Return_some (k2 A env y s ρ l _ E rm en c1 R0 ad fr q)
 |ite t a b=>
  obtain⟨k,st1,e1,h⟩:=rj h;cases k with
  |true=>
   obtain⟨j1,j2⟩:=Hs _ _ _ _ h hc;obtain⟨k1,k2⟩:=Ht _ _ _ _ _ e1 j1;refine⟨k1,λA env x s ρ l Q E rm en ck R0 ad fr pe q=>?_⟩;obtain⟨t',a',b',p,rfl,c1,c2,c3⟩:=pD _ _ ck;exact wpAny_If (k2 A env t' s ρ _ _ (iQ rm) en c1 R0 ad λρ1 s1 r1=>j2 A env a' s1 ρ1 l Q E (iQ rm) (en.grow r1.grow) c2 r1.rel (eB.trans ad r1.grow) (fr.res r1) pe λρ2 s2 a x=>q ρ2 s2 a (x.after r1))
  |false=>
   obtain⟨j1,j2⟩:=Hs _ _ _ _ h hc;obtain⟨k1,k2⟩:=Ht _ _ _ _ _ e1 j1;refine⟨k1,λA env x s ρ l Q E rm en ck R0 ad fr pe q=>?_⟩;obtain⟨t',a',b',p,rfl,c1,c2,c3⟩:=pD _ _ ck;exact wpAny_If (k2 A env t' s ρ _ _ (iQ rm) en c1 R0 ad λρ1 s1 r1=>j2 A env b' s1 ρ1 l Q E (iQ rm) (en.grow r1.grow) c3 r1.rel (eB.trans ad r1.grow) (fr.res r1) pe λρ2 s2 a x=>q ρ2 s2 a (x.after r1))
 |«while» t b=>
  obtain⟨k1,k2⟩:=loop h;exact⟨k1,λA env x s ρ l Q E rm en ck R0 ad fr pe q=>k2 A env x s ρ l Q E (rm.less (by omega)) en ck R0 ad fr pe q⟩
 |«for» nn it b=>
  obtain⟨k1,k2⟩:=loop h;exact⟨k1,λA env x s ρ l Q E rm en ck R0 ad fr pe q=>k2 A env x s ρ l Q E (rm.less (by omega)) en ck R0 ad fr pe q⟩
 |_=>exact nomatch(show none=some _ from h)
nonrec theorem Dv{c:Cx}{EI:eW}{R:sD}{ih:Rv}{ev:Ev}{n:Nat}(HX:SX c (n+1) (jk c.P ev))(HR:CQ c EI (n+1) (rX c.P R ev ih))(Hs:pE c EI n ih.ss):pE c EI (n+1) (MW c.P R ev ih):=by
 intro m fi st C' h hc;cases m with
 |nil=>exact nomatch(show none=some _ from h)
 |cons x r=>
  have h:od (rX c.P R ev ih x fi st) some (ob (jk c.P ev x fi st) λf st=>match f with
   | .next=>ih.ss r fi st
   |_=>none)=some C':=h
  cases e1:rX c.P R ev ih x fi st with
  |some st1=>
   rw[e1] at h;obtain rfl:=ac (show some st1=some C' from h);obtain⟨k1,k2⟩:=HR _ _ _ _ e1 hc;refine⟨k1,λA env xs s ρ l Q E rm en ck R0 ad fr pe q=>?_⟩;obtain⟨y,ys,rfl,c1,c2⟩:=hG _ _ ck;exact ak (k2 A env y s ρ l _ E rm en c1 R0 ad fr pe q)
  |none=>
   rw[e1] at h;obtain⟨f,st1,e1,h⟩:=rj (show ob (jk c.P ev x fi st) _=some C' from h);cases f with
   |next=>
    obtain⟨j1,j2⟩:=Hs _ _ _ _ h hc;obtain⟨k1,k2⟩:=HX _ _ _ _ _ e1 j1;refine⟨k1,λA env xs s ρ l Q E rm en ck R0 ad fr pe q=>?_⟩;obtain⟨y,ys,rfl,c1,c2⟩:=hG _ _ ck;refine ak (k2 A env y s ρ _ E rm en c1 R0 ad λρ1 s1 N1 r1 v1=>?_);obtain rfl:=v1;exact j2 A env ys s1 ρ1 l Q E (iQ rm) (en.grow r1.grow) c2 r1.rel (eB.trans ad r1.grow) (fr.res r1) pe λρ2 s2 a x=>q ρ2 s2 a (x.after r1)
   |_=>exact nomatch(show none=some _ from h)
theorem Fw{c:Cx}{EI:eW}{R:sD}{ih:Rv}{n:Nat}(X:c.Ok)(Y:c.More)(Z:Ai c EI R)(Hs:pE c EI n ih.ss):vM c EI (n+1) (rC c.P R ih):=by
 intro f vs st C' h hc;have h:oi (R.orc f) (JU st λos r=>some ⟨os,r,R.spec f vs st.os os::st.cs⟩) (on (c.P.fn f) λq=>on (qy q.1 vs) λb=>ih.ss q.2 st.os.length ⟨st.os++[.frame b],st.ch,st.cs⟩)=some C':=h;cases eo:R.orc f with
 |true=>
  rw[eo] at h;obtain⟨os,r,h⟩:=wW h;cases h;exact⟨hc.tail,Z.specK _ eo,λA xs s ρ l E rm R0 ad fr vr q=>Z.spec _ _ _ _ hc.head A xs s ρ l E (rm.less (by omega)) R0 ad fr vr q⟩
 |false=>
  rw[eo] at h;obtain⟨pb,ef,h⟩:=oV h;obtain⟨b,eb,h⟩:=oV h;obtain⟨fd,bd,K⟩:=Y.fn _ _ _ ef;obtain⟨k1,k2⟩:=Hs _ _ _ _ h hc;refine⟨k1,zZ K,λA xs s ρ l E rm R0 ad fr vr q=>xm X K eb rm R0 vr λh₀ t kp r0 en rm'=>?_⟩;have fr':iZ c.h₀ (callEnv fd s.heap.objs.size f::l) (A.deeper (callEnv fd s.heap.objs.size f)) (ρ++[s.heap.objs.size]) (st.os++[.frame b]) h₀:=fr.push (env:=callEnv fd s.heap.objs.size f) r0.rel rfl K.kind R0.len kp (fA s);exact k2 (A.deeper _) _ bd _ _ (callEnv fd s.heap.objs.size f::l) _ _ rm' en K.chk r0.rel (eB.trans ad r0.grow) fr' PassesOwn.leaving λρ1 s1 a x=>(x.after r0).leave fr'.fr rfl (.inl (fA s)) λs2 x2=>q ρ1 s2 a x2
theorem mS{c:Cx}{EI:eW}{R:sD}(X:c.Ok)(Y:c.More)(Z:Ai c EI R):∀n,vM c EI n (tP c.P R n).c/\pE c EI n (tP c.P R n).ss
 |0=>⟨λI I I I h=>absurd (show none=some _ from h) (by simp),λI I I I h=>absurd (show none=some _ from h) (by simp)⟩
 |n+1=>
  let⟨he,ht,hs,_⟩:=gV X Y n
  let⟨rc,rs⟩:=mS X Y Z n
  ⟨Fw X Y Z rs,Dv (ve X Y he ht hs) (Hw X Z he ht rc rs) rs⟩
section
set_option tactic.hygienic true
def jv:List Prop->Prop
 |[]=>True
 |p::l=>p/\jv l
theorem gh:∀{l:List Prop},jv l->All l
 |[],_=>λI m=>by cases m
 |p::l,h=>λq m=>by
  rcases aD.mp m with rfl | m
  .exact h.1
  .exact gh h.2 q m
def dg(c:Cx)(k:Nat)(g:Nat->Option Nat)(σ:List O)(J:List O->Prop):Prop:=
 ∀ρ h,c.R ρ σ h->∃ρ' σ',J σ'/\c.R ρ' σ' h/\(∀x∈dA ρ' σ',x∈dA ρ σ)/\(∀i a,i<k->nth ρ i=some a->nth ρ' i=some a)/\
  (∀i j,g i=some j->∀a,nth ρ i=some a->nth ρ' j=some a)/\(∀i m,i<k->nth σ i=some (.frame m)->∃m',nth σ' i=some (.frame m'))/\
  (∀x∈dA ρ' σ',∀i m,nth ρ i=some x->nth σ i=some (.frame m)->∃j m',nth ρ' j=some x/\nth σ' j=some (.frame m'))
theorem dg.mono{c:Cx}{k k':Nat}{g:Nat->Option Nat}{σ:List O}{J J':List O->Prop}(T:dg c k g σ J)(hk:k'<=k)(h:∀σ',J σ'->J' σ'):dg c k' g σ J':=λρ hp R=>by
 obtain⟨ρ',σ',a1,a2,a3,a4,a5,a6,a7⟩:=T ρ hp R;exact⟨ρ',σ',h _ a1,a2,a3,λi a l=>a4 i a (aH l hk),a5,λi m l=>a6 i m (aH l hk),a7⟩
theorem dg.id{c:Cx}{k:Nat}{σ:List O}{J:List O->Prop}(h:J σ):dg c k some σ J:=λρ hp R=>
 ⟨ρ,σ,h,R,λI m=>m,λI I I e=>e,λi j e a q=>by cases e;exact q,λI m I e=>⟨m,e⟩,λx I i m e1 e2=>⟨i,m,e1,e2⟩⟩
def fb:List Nat->Nat->Option Nat
 |[],_=>none
 |a::l,i=>match Nat.beq a i with
  |true=>some 0
  |false=>match fb l i with
   |some j=>some (j+1)
   |none=>none
theorem Aa:∀{l:List Nat} {i j:Nat},fb l i=some j->nth l j=some i
 |[],_,_,h=>by cases h
 |a::l,i,j,h=>by
  have h:(match Nat.beq a i with | true=>some 0 | false=>match fb l i with | some j=>some (j+1) | none=>none)=some j:=h;cases e:Nat.beq a i with
  |true=>
   rw[e] at h;obtain rfl:=ac h;exact az some (aP e)
  |false=>
   rw[e] at h;cases z:fb l i with
   |some k=>
    rw[z] at h;obtain rfl:=ac h;exact Aa (l:=l) z
   |none=>rw[z] at h;cases h
def ROs(f:Nat->Option Nat):List O->List O->Prop
 |[],l=>l=[]
 |o::os,l=>∃o' r,l=o'::r/\RO f o o'/\ROs f os r
theorem ROs.len{f:Nat->Option Nat}:∀{a b:List O},ROs f a b->b.length=a.length
 |[],_,e=>by cases e;rfl
 |_::_,_,zh2=>by
  obtain⟨_,_,e,_,r⟩:=zh2;subst e;exact az (·+1) r.len
theorem ROs.at{f:Nat->Option Nat}:∀{a b:List O} {j:Nat} {o:O},ROs f a b->nth a j=some o->∃o',nth b j=some o'/\RO f o o'
 |[],_,_,_,_,e=>by cases e
 |x::a,_,0,_,zh4,h=>by
  obtain⟨o',r,e,q,_⟩:=zh4;subst e;cases h;exact⟨o',rfl,q⟩
 |x::a,_,j+1,_,zh4,h=>by
  obtain⟨o',r,e,_,q⟩:=zh4;subst e;exact ROs.at (a:=a) (j:=j) q h
theorem jH{α β:Type}(f:α->β):∀{l:List α} {j:Nat},nth (l.map f) j=(nth l j).map f
 |[],_=>rfl
 |a::l,0=>rfl
 |a::l,j+1=>jH f (l:=l) (j:=j)
theorem F1{l:List Nat}(h:l.Nodup):∀{i j k:Nat},nth l i=some k->nth l j=some k->i=j:=λ{i j k} e1 e2=>by
 rw[dP] at e1 e2;obtain⟨h1,e1⟩:=List.getElem?_eq_some_iff.mp e1;obtain⟨h2,e2⟩:=List.getElem?_eq_some_iff.mp e2;have p:=List.pairwise_iff_getElem.mp h;rcases Nat.lt_trichotomy i j with z | z | z
 .exact absurd (e1.trans e2.symm) (p i j h1 h2 z)
 .exact z
 .exact absurd (e2.trans e1.symm) (p j i h2 h1 z)
theorem uO{l:List Nat}{σ I' H':List O}(e:l.map (nth σ ·)=I'.map some)(nd:l.Nodup)(R:ROs (fb l) I' H'):L2 l (fb l) σ H':=by
 have len:l.length=I'.length:=by have:=az List.length e;simpa using this
 refine⟨by rw[R.len,len],λi j h=>Aa h,λj i h=>?_,λi j k=>F1 nd⟩;have e1:nth (l.map (nth σ ·)) j=some (nth σ i):=by rw[jH,h];rfl
 rw[e,jH] at e1;obtain⟨o,ho,e2⟩:=aq.mp e1;obtain⟨o',e3,q⟩:=R.at ho;exact⟨o,o',e2.symm,e3,q⟩
nonrec theorem AG{c:Cx}{l:List Nat}{σ H':List O}{ρ:List Addr}{h:Heap}(R0:c.R ρ σ h)(S:L2 l (fb l) σ H'):∀x∈dA (jx 0 l ρ) H',∀i m,nth ρ i=some x->nth σ i=some (.frame m)->∃j m',nth (jx 0 l ρ) j=some x/\nth H' j=some (.frame m'):=by
 exact(λx hx i m q1 q2=>by
 obtain⟨j,a,o',f1,f2,f3⟩:=dC.mp hx;obtain⟨i',f4,f5⟩:=pL f1;obtain⟨o,o'',g1,g2,y⟩:=S.cell j i' f4;rw[f2] at g2;cases g2;obtain⟨a',ha'⟩:=jI R0.len.symm g1;rw[ha'] at f5;cases f5;have yy:=(y.rep (P:=⟨c.prog,c.w⟩) (nm:=c.nm) (ρ:=ρ) (ρ':=jx 0 l ρ) (h:=h) (λi j q a ha=>by rw[jh (S.back i j q),ha];rfl) (R0.at ha' g1)).2;have f3:x∈foot a' o':=f3;rw[yy] at f3
 by_cases z:i=i'
 .subst z
  rw[q1] at ha';cases ha';rw[q2] at g1;cases g1;obtain⟨b',rfl,_⟩:=y;exact⟨j,b',f1,f2⟩
 .exact absurd f3 (R0.apart i i' x a' _ o q1 q2 ha' g1 z x (.head _)))
section
variable{c:Cx} {I' H':List O} {EI:eW} {r:Nat} {orc:Nat->Bool}
theorem dg.sel{k:Nat}{l:List Nat}{σ:List O}(e:l.map (nth σ ·)=I'.map some)(nd:l.Nodup)(keep:∀i<k,nth l i=some i)(R:ROs (fb l) I' H'):dg c k (fb l) σ (·=H'):=λρ h R0=>by
 have S:=uO e nd R;obtain⟨R1,ft⟩:=R0.sel S;have at_:∀i,i<k->∀a,nth ρ i=some a->nth (jx 0 l ρ) i=some a:=λi hi a ha=>by rw[jh (keep i hi),ha];rfl
 refine⟨_,_,rfl,R1,ft,λi a hi ha=>at_ i hi a ha,λi j q a ha=>by rw[jh (S.back i j q),ha];rfl,λi m hi q=>?_,AG R0 S⟩;obtain⟨o,o',e2,e3,y⟩:=S.cell i i (keep i hi);rw[q] at e2;cases e2;obtain⟨b',rfl,_⟩:=y;exact⟨b',e3⟩
theorem eR.tell{ρ9 ρ:List Addr}{σ0 σ:List O}{s₀ s:Shared}{g:Nat->Option Nat}{J:List O->Prop}{k:Nat}(r:c.Rs ρ9 σ0 s₀ ρ σ s)(T:dg c k g σ J)(hk:σ0.length<=k)(hlen:ρ9.length=σ0.length):
  ∃ρ' σ',J σ'/\c.Rs ρ9 σ0 s₀ ρ' σ' s/\(∀i j,g i=some j->∀a,nth ρ i=some a->nth ρ' j=some a)/\(∀i a,i<k->nth ρ i=some a->nth ρ' i=some a)/\(∀x∈dA ρ' σ',x∈dA ρ σ)/\
   (∀x∈dA ρ' σ',∀i m,nth ρ i=some x->nth σ i=some (.frame m)->∃j m',nth ρ' j=some x/\nth σ' j=some (.frame m')):=by
 obtain⟨ρ',σ',a1,a2,a3,a4,a5,a6,a7⟩:=T ρ s.heap r.rel;refine⟨ρ',σ',a1,⟨λi a e=>a4 i a ?_ (r.grow i a e),a2,r.keep,λx m=>r.fresh x (a3 x m),r.gens,r.os,λi m e=>?_⟩,a5,a4,a3,a7⟩
 .exact aH (fR e) (by rw[hlen];exact hk)
 .obtain⟨m1,e1⟩:=r.frm i m e
  exact a6 i m1 (aH (fR e) hk) e1
theorem d9.tell{l:List Env}{ρ9 ρ:List Addr}{σ0 σ:List O}{s₀ s:Shared}{a:Addr}{g:Nat->Option Nat}{J:List O->Prop}{k:Nat}(x:d9 c EI l ρ9 σ0 s₀ σ ρ a s)(T:dg c k g σ J)(hk:σ0.length<=k)(hlen:ρ9.length=σ0.length):
  ∃ρ' σ',J σ'/\d9 c EI l ρ9 σ0 s₀ σ' ρ' a s:=by
 obtain⟨sm,fs,h1,h2,h3,h4,h5,h6,h7,h8⟩:=x;obtain⟨ρ',σ',j,r,_,_,ft,fm⟩:=eR.tell h1 T hk hlen;refine⟨ρ',σ',j,sm,fs,r,h2,h3,h4,h5,λb m q=>?_,λq=>h7 (ft a q),h8⟩;obtain⟨i,m',e1,e2⟩:=h6 b m (ft b q);exact fm b q i m' e1 e2
def Cx.at(c:Cx)(r:Nat):Cx:={c with P:={c.P with room:=r}}
def Bo(c:Cx)(r:Nat)(orc:Nat->Bool):Cx:={c with P:={c.P with orc:=orc,room:=r,spec:=fJ (c.at r),specL:=Aw (c.at r)}}
def Fs(c:Cx)(r:Nat)(EI:eW)(orc:Nat->Bool):sD:=⟨orc,eU (c.at r) EI,mK (c.at r) EI⟩
structure oG(c:Cx):Prop where
 fn:∀f ps body,c.P.fn f=some (ps,body)->∃fd b,tO c f ps body fd b
theorem jQ(X:c.Ok):(Bo c r orc).Ok:=⟨X.X,X.g,X.b,X.lim,X.inj,X.glob,X.cls,X.meth,X.fld⟩
theorem gO(F:oG c)(K:∀f,orc f=true->keepIn c.K (.ref f)=true):(Bo c r orc).More:=
 ⟨λf ps body e=>let⟨fd,b,h⟩:=F.fn f ps body e;⟨fd,b,⟨h.at_,h.kind,h.co,h.gen,h.glob,h.blt,h.code,h.cell,h.loc,h.bind,h.nodup,h.fbody,h.chk⟩⟩,λI I I I I h=>h,K,λI I I I I h=>h⟩
theorem qg(orc':Nat->Bool)(K:∀f,orc' f=true->keepIn c.K (.ref f)=true):Ai (Bo c r orc) EI (Fs c r EI orc'):=⟨λI I I I h=>h,K,λI I I I h=>h⟩
theorem Gj(X:c.Ok)(F:oG c)(K:∀f,orc f=true->keepIn c.K (.ref f)=true){n f:Nat}{vs:List V}{os:List O}{ch:List Ch}{v1:V}{cs:List Prop}(l:List Nat)
  (h:((ev (Bo c r orc).P n).c f vs ⟨os,ch,[]⟩).map (λq=>(q.1,l.map (nth q.2.os ·),q.2.cs))=some (v1,I'.map some,cs)) (hc:jv cs) (nd:l.Nodup) (keep:∀i<os.length,nth l i=some i)
  {v:V} (S:ROs (fb l) I' H') (rv:RV (fb l) v1 v):fJ (c.at (n+r)) f vs os v H':=by
 obtain⟨⟨v2,C'⟩,e1,e2⟩:=aq.mp h;obtain⟨rfl,e3,rfl⟩:v2=v1/\l.map (nth C'.os ·)=I'.map some/\C'.cs=cs:=by simpa only[bc] using e2
 obtain⟨_,_,k2⟩:=(gV (jQ (r:=r) (orc:=orc) X) (gO F K) n).2.2.2 _ _ _ _ _ e1 (gh hc);have T:=dg.sel (c:=c) e3 nd keep S;refine λA xs s ρ Q E rm R ad vr q=>k2 A xs s ρ Q E rm R ad vr λρ' s' y r1 v1=>?_;obtain⟨ρ2,σ2,rfl,r2,g2,_⟩:=eR.tell (c:=c) r1 T (ao _) R.len;exact q ρ2 s' y r2 (rv.rep g2 v1)
theorem Ee(X:c.Ok)(F:oG c)(K:∀f,orc f=true->keepIn c.K (.ref f)=true){orc':Nat->Bool}(K':∀f,orc' f=true->keepIn c.K (.ref f)=true){n f:Nat}{vs:List V}{os:List O}{ch:List Ch}{cs:List Prop}(l:List Nat)
  (h:((tP (Bo c r orc).P (Fs c r EI orc') n).c f vs ⟨os,ch,[]⟩).map (λq=>(l.map (nth q.os ·),q.cs))=some (I'.map some,cs)) (hc:jv cs) (nd:l.Nodup) (keep:∀i<os.length,nth l i=some i)
  (S:ROs (fb l) I' H'):eU (c.at (n+r)) EI f vs os H':=by
 obtain⟨C',e1,e2⟩:=aq.mp h;obtain⟨e3,rfl⟩:l.map (nth C'.os ·)=I'.map some/\C'.cs=cs:=by simpa only[bc] using e2
 obtain⟨_,_,k2⟩:=(mS (EI:=EI) (jQ (r:=r) (orc:=orc) X) (gO F K) (qg orc' K') n).1 _ _ _ _ e1 (gh hc);have T:=dg.sel (c:=c) e3 nd keep S;refine λA xs s ρ l E rm R ad fr vr q=>k2 A xs s ρ l E rm R ad fr vr λρ' s' a x=>?_;obtain⟨ρ2,σ2,rfl,x2⟩:=d9.tell (c:=c) x T (ao _) R.len;exact q ρ2 s' a x2
end
end
inductive qX where
 |lst (i:Nat) (xs:List V)
 |rng (n:Nat)
def qX.len:qX->Nat
 | .lst _ xs=>xs.length
 | .rng n=>n
def qX.at:qX->Nat->Option V
 | .lst _ xs,j=>nth xs j
 | .rng n,j=>if j<n then some (.int true (j:Nat)) else none
def om:qX->List O->Prop
 | .lst i xs,σ=>∃y,nth σ i=some (.list y xs)
 | .rng n,_=>n<2^60
def jF:qX->Addr->Nat->List Addr->Heap->Prop
 | .lst i _,ge,j,ρ,h=>∃a,nth ρ i=some a/\h.IsListIter ge a j
 | .rng n,ge,j,_,h=>IsRangeIter h ge (j:Int) ((n:Int) - (j:Int)) 1
section
variable{N2:qX} {ge:Addr} {j:Nat} {ρ:List Addr} {h h':Heap} {σ:List O}
theorem jF.obj(x:jF N2 ge j ρ h):∃o,h.get? ge=some o/\o.cls≠ .type "tuple":=by
 cases N2 with
 |lst i xs=>
  obtain⟨a,_,o,ho,hc,_⟩:=x;exact⟨o,ho,by rw[hc];exact λq=>absurd (cq q) ()⟩
 |rng n=>exact⟨_,x,λq=>absurd (cq q) ()⟩
theorem jF.same{ρ':List Addr}(x:jF N2 ge j ρ h)(e:∀o,h.get? ge=some o->h'.get? ge=some o)(g:∀i xs a,N2= .lst i xs->nth ρ i=some a->nth ρ' i=some a):jF N2 ge j ρ' h':=by
 cases N2 with
 |lst i xs=>
  obtain⟨a,ha,o,ho,r⟩:=x;exact⟨a,g i xs a rfl ha,o,e o ho,r⟩
 |rng n=>exact e _ x
theorem qS{o:Obj}(e:h.get? ge=some o)(hn:o.cls≠ .type "tuple")(k:∀b o,b≠ge->h.get? b=some o->h'.get? b=some o):fU h h':=λa z' ⟨o',ho,hc,r⟩=>by
 by_cases z:a=ge
 .subst z;rw[e] at ho;cases ho;exact absurd hc hn
 .exact⟨o',k a o' z ho,hc,r⟩
theorem kB.off{nm:Nat->Str}{P:PW}{h₀:Heap}{o:Obj}(R:kB nm P h₀ ρ σ h)(e:h.get? ge=some o)(hn:o.cls≠ .type "tuple")(hI:ge∉dA ρ σ)(h0:h₀.get? ge=none)
  (k:∀b o,b≠ge->h.get? b=some o->h'.get? b=some o):kB nm P h₀ ρ σ h':=by
 refine⟨R.len,λi a q e1 e2=>(R.rep i a q e1 e2).up (.refl _) (qS e hn k) λb m x ex=>k b x (λz=>hI (z▸dC.mpr ⟨i,a,q,e1,e2,m⟩)) ex,R.apart,R.new,λb x ex=>k b x (λz=>?_) (R.old b x ex)⟩;subst z;rw[h0] at ex;cases ex
theorem eR.off{nm:Nat->Str}{P:PW}{h₀:Heap}{ρ9:List Addr}{σ0:List O}{s₀ s s':Shared}{o:Obj}(r:eR nm P h₀ ρ9 σ0 s₀ ρ σ s)(R2:kB nm P h₀ ρ9 σ0 s₀.heap)(e:s.heap.get? ge=some o)(hn:o.cls≠ .type "tuple")(hI:ge∉dA ρ σ)(h0:s₀.heap.get? ge=none\/ge∈dA ρ9 σ0)
  (k:∀b o,b≠ge->s.heap.get? b=some o->s'.heap.get? b=some o) (hg:s'.gens=s.gens) (ho:s'.os=s.os):eR nm P h₀ ρ9 σ0 s₀ ρ σ s':=by
 have hb:h₀.get? ge=none:=by
  cases q:h₀.get? ge with
  |none=>rfl
  |some x=>
   rcases h0 with h0 | h0
   .have:=R2.old ge x q;rw[h0] at this;cases this
   .have:=R2.new ge h0;rw[q] at this;cases this
 exact⟨r.grow,r.rel.off e hn hI hb k,λb x ex m=>k b x (λz=>by subst z;rcases h0 with h0 | h0;(rw[h0] at ex;cases ex);exact m h0) (r.keep b x ex m),r.fresh,hg.trans r.gens,ho.trans r.os,r.frm⟩
theorem uY{c:Cx}{A:Around}{E:Value->Shared->Prop}{s:Shared}{Q:Option Value->Shared->Prop}{v:V}(R:c.R ρ σ s.heap)(hs:om N2 σ)(x:jF N2 ge j ρ s.heap)(hv:N2.at j=some v)
  (q:∀y h' tk,dH ρ h' v y->jF N2 ge (j+1) ρ h'->(∀b o,b≠ge->s.heap.get? b=some o->h'.get? b=some o)->Q (some y) {s with heap:=h',toks:=tk}):wpAny c.M A (pyNext (.ref ge)) Q E s:=by
 obtain⟨oI,hoI,hnI⟩:=x.obj;cases N2 with
 |lst i xs=>
  obtain⟨a,ha,hit⟩:=x;obtain⟨y,hy⟩:=hs;obtain⟨z',n,ho,z⟩:=R.at ha hy;obtain⟨w,hw,vw⟩:=z.nth hv;refine wpAny_pyNext_list_item hit (items:=z'.toArray) (x:=w) ⟨_,ho,rfl,n,rfl⟩ (by simpa using hw) λh' hit' sb=>?_;have k:∀b o,b≠ge->s.heap.get? b=some o->h'.get? b=some o:=λb o hb e=>by rw[sb.2 b hb];exact e
  exact q w h' s.toks (vw.up (.refl _) (qS hoI hnI k)) ⟨a,ha,hit'⟩ k
 |rng n=>
  have hv:(if j<n then some (V.int true (j:Nat)) else none)=some v:=hv
  by_cases hj:j<n
  .rw[if_pos hj] at hv
   cases hv;refine wpAny_pyNext_range_item x (by omega) λh' hit' sb=>?_;exact q _ h' _ ⟨_,rfl⟩ (by show IsRangeIter h' ge ((j+1:Nat):Int) _ 1;rw[show((j+1:Nat):Int)=(j:Int)+1 from by omega,show(n:Int) - ((j:Int)+1)=(n:Int) - (j:Int) - 1 from by omega];exact hit') λb o hb e=>by rw[sb.2 b hb];exact e
  .rw[if_neg hj] at hv;cases hv
theorem yf{c:Cx}{A:Around}{E:Value->Shared->Prop}{s:Shared}{Q:Option Value->Shared->Prop}(hh:A.handled=none)(R:c.R ρ σ s.heap)(hs:om N2 σ)(x:jF N2 ge j ρ s.heap)(hv:N2.at j=none)(hj:j<=N2.len)
  (q:∀h',(∀b o,b≠ge->s.heap.get? b=some o->h'.get? b=some o)->Q none {s with heap:=h'}):wpAny c.M A (pyNext (.ref ge)) Q E s:=by
 cases N2 with
 |lst i xs=>
  obtain⟨a,ha,hit⟩:=x;obtain⟨y,hy⟩:=hs;obtain⟨z',n,ho,z⟩:=R.at ha hy;have zl:=z.length;refine wpAny_pyNext_list_end hh hit (items:=z'.toArray) ⟨_,ho,rfl,n,rfl⟩ ?_ λh' xb=>q h' xb;have hv:nth xs j=none:=hv;rw[dP] at hv;have:=bW.mp hv;simp;omega
 |rng n=>
  have hv:(if j<n then some (V.int true (j:Nat)) else none)=none:=hv
  by_cases hj:j<n
  .rw[if_pos hj] at hv;cases hv
  .exact wpAny_pyNext_range_end hh x (by omega) λh' xb=>q h' xb
def uH(c:Cx)(it:ME)(fi:Nat)(σ:List O)(N2:qX)(σ1:List O):Prop:=
 ∀(A:Around) (env:Env) (x:Expr) (s:Shared) (ρ:List Addr) (Q E:Value->Shared->Prop),ee A c.P.room->dE env fi ρ->dO c.nm env.scope it x->c.R ρ σ s.heap->e9 c ρ->
  (∀ρ' s' ge,c.Rs ρ σ s ρ' σ1 s'->jF N2 ge 0 ρ' s'.heap->ge∉dA ρ' σ1->(s.heap.get? ge=none\/ge∈dA ρ σ)->Q (.ref ge) s')->wpAny c.M A (eval x env) (λv s1=>wpAny c.M A (pyIter v) Q E s1) E s
theorem kK{c:Cx}{r:Nat}{orc:Nat->Bool}(X:c.Ok)(F:oG c)(K:∀f,orc f=true->keepIn c.K (.ref f)=true){n fi:Nat}{it:ME}{ch:List Ch}{st:St}{i:Nat}{xs:List V}{y:Bool}
  (h:(ev (Bo c r orc).P n).e it fi ⟨σ,ch,[]⟩=some (.obj i,st)) (hc:All st.cs) (hi:nth st.os i=some (.list y xs)):uH (c.at (n+r)) it fi σ (.lst i xs) st.os:=by
 obtain⟨_,k2⟩:=(gV (jQ (r:=r) (orc:=orc) X) (gO F K) n).1 _ _ _ _ _ h hc;refine λA env x s ρ Q E rm en ck R ad q=>k2 A env x s ρ _ E rm en ck R ad λρ' s' v r1 v1=>?_;obtain⟨a,ha,rfl⟩:=v1;rw[<-dP] at ha;obtain⟨z',m,ho,z⟩:=r1.rel.at ha hi;refine wpAny_pyIter_list (items:=z'.toArray) ⟨_,ho,rfl,m,rfl⟩ ?_;have k:∀b o,s'.heap.get? b=some o->(s'.heap.push {cls:=.type "list_iterator",data:=.fields #[.ref a,.int 0 0]}).get? b=some o:=λb o e=>ae _ e;refine q ρ' _ _ (r1.trans (eR.more0 r1.rel k rfl rfl)) ⟨a,ha,_,aB _ rfl,rfl,rfl⟩ (λm=>?_) ?_
 .obtain⟨o,e⟩:=r1.rel.there m
  exact absurd (ay e) (bD _)
 .by_cases m:s'.heap.objs.size∈dA ρ σ
  .exact .inr m
  .cases e:s.heap.get? s'.heap.objs.size with
   |none=>exact .inl rfl
   |some o=>exact absurd (ay (r1.keep _ o e m)) (bD _)
end
nonrec theorem iA{c:Cx}{r:Nat}{n fi:Nat}{g:Nm}{σ:List O}{ch:List Ch}{st:St}{m:Nat}{y:Bool}{{orc:Nat->Bool}}(X:c.Ok)(F:oG c)(K:∀f,orc f=true->keepIn c.K (.ref f)=true){e:ME}(hg:c.P.glob g=some (.bi 6))(h:(ev (Bo c r orc).P n).e e fi ⟨σ,ch,[]⟩=some (.int y (m:Nat),st))(hc:All st.cs)(hm:m<2^60):uH (c.at (n+r)) (.call (.glb g) [e]) fi σ (.rng m) st.os:=by
 obtain⟨_,k2⟩:=(gV (jQ (r:=r) (orc:=orc) X) (gO F K) n).1 _ _ _ _ _ h hc;refine λA env x s ρ Q E rm en ck R ad q=>?_;obtain⟨f',as',p,rfl,hn,c1,c2⟩:=mH _ _ ck;obtain⟨id,np,rfl⟩:∃id np,f'= .Name id np:=by
  cases f'<;>first | exact⟨_,_,rfl⟩ | cases hn
 have c2':=c2;obtain⟨x1,xs,rfl,c3,c4⟩:=fK _ _ c2;obtain rfl:=jl _ _ c4;obtain⟨p',e',hl,hd⟩:=uR _ _ c1;cases e';refine bH (g9 (c:=c) (st:=⟨σ,ch,[]⟩) (E:=E) X hg en hl hd R λy1 v1=>?_);cases v1;refine cE (fV c2') (gp c2' ?_);refine aF (k2 A env x1 s ρ _ _ rm en c3 R ad λρ1 s1 y1 r1 v1=>?_) (ez (gP _ _ _ _ c3));obtain⟨t,rfl⟩:=v1;refine aN ?_;refine call_range_1 ?_;refine wpAny_pyIter_range (IsRange.new _ _ _ _ _ _ _) (small_one (by omega) (by omega) (by omega) (by omega)) ?_;have k1:∀o b q,s1.heap.get? b=some q->(s1.heap.push o).get? b=some q:=λo b q e=>ae _ e;refine q ρ1 _ _ (r1.trans (eR.more0 r1.rel (λb o e=>ae _ (ae _ e)) rfl rfl)) ?_ (λmm=>?_) ?_
 .show IsRangeIter _ _ _ _ _
  have sz:Builtin.Range.rangeSize 0 (m:Int) 1=(m:Int):=by rw[rangeSize_one];split<;>omega
  rw[sz,show(m:Int) - ((0:Nat):Int)=(m:Int) from by omega];exact aB _ rfl
 .obtain⟨o,e⟩:=r1.rel.there mm
  have h3:s1.heap.objs.size+1<s1.heap.objs.size:=by have:=ay e;rwa [bB] at this
  exact absurd h3 (cF.mpr (au _))
 .by_cases mm:(s1.heap.push {cls:=Value.type "range",data:=Data.fields #[Value.int 0 s1.toks,Value.int (m:Int) t,Value.int 1 (s1.toks+1)]}).objs.size∈dA ρ σ
  .exact .inr mm
  .refine .inl ?_
   cases e:s.heap.get? (s1.heap.push {cls:=Value.type "range",data:=Data.fields #[Value.int 0 s1.toks,Value.int (m:Int) t,Value.int 1 (s1.toks+1)]}).objs.size with
   |none=>rfl
   |some o=>
    have h3:s1.heap.objs.size+1<s1.heap.objs.size:=by have:=ay (r1.keep _ o e mm);rwa [bB] at this
    exact absurd h3 (cF.mpr (au _))
def dL(c:Cx)(EI:eW)(rz:Prop)(m:MS)(fi:Nat)(os:List O)(NP:Fl->List O->Prop)(XP:List O->Prop):Prop:=
 ∀(A:Around) (env:Env) (x:Stmt) (s:Shared) (ρ:List Addr) (l:List Env) (Q:Flow->Shared->Prop) (E:Value->Shared->Prop),ee A c.P.room->dE env fi ρ->gI c.nm env.scope m x->c.R ρ os s.heap->e9 c ρ->
  PassesOwn c.M A env E->(rz->iZ c.h₀ l A ρ os s.heap)->
  (∀ρ' s' fl N1 σ',NP fl σ'->c.Rs ρ os s ρ' σ' s'->qR ρ' s'.heap fl N1->Q N1 s')->(rz->∀ρ' s' a σ',XP σ'->d9 c EI l ρ os s σ' ρ' a s'->E (.ref a) s')->wpAny c.M A (exec x env) Q E s
section
variable{c:Cx} {EI:eW} {fi:Nat} {os:List O} {XP:List O->Prop} {NP:Fl->List O->Prop} {orc orc':Nat->Bool} {rz:Prop} {N2:qX}
theorem dL.normal{m:MS}{H':List O}{fl:Fl}(h:dL c EI False m fi os (λf σ'=>f=fl/\σ'=H') XP):Aw c m fi os fl H':=
 λA env x s ρ Q E rm en ck R ad q=>wpAny_noRaise (h A env x s ρ [] Q (λI I=>False) rm en ck R ad .never (λf=>f.elim) (λρ' s' f N1 σ' e r v=>by obtain⟨rfl,rfl⟩:=e;exact q ρ' s' N1 r v) (λf=>f.elim))
theorem dL.raises{m:MS}{H':List O}(h:dL c EI True m fi os NP (·=H'))(hn:∀f σ,¬NP f σ):mK c EI m fi os H':=
 λA env x s ρ l Q E rm en ck R ad fr pe q=>h A env x s ρ l Q E rm en ck R ad pe (λI=>fr) (λρ' s' f N1 σ' e r v=>(hn _ _ e).elim) λI ρ' s' a σ' e x=>by subst e;exact q ρ' s' a x
def Dx(c:Cx)(k:Nat)(NP:Fl->List O->Prop)(J:List O->Prop)(fl:Fl)(σ:List O):Prop:=match fl with
 | .next=>∃g,dg c k g σ J
 | .cont=>∃g,dg c k g σ J
 | .brk=>∃g,dg c k g σ (NP .next)
 | .ret v=>∃g w,RV g v w/\dg c k g σ (NP (.ret w))
def iE(c:Cx)(r:Nat)(orc orc':Nat->Bool)(EI:eW)(rz:Prop)(n k:Nat)(b:List MS)(fi:Nat)(σ:List O)(NP:Fl->List O->Prop)(XP J:List O->Prop):Prop:=
 (∃ch fl st,(ev (Bo c r orc).P n).ss b fi ⟨σ,ch,[]⟩=some (fl,st)/\All st.cs/\Dx c k NP J fl st.os)\/
 (rz/\∃ch st,(tP (Bo c r orc).P (Fs c r EI orc') n).ss b fi ⟨σ,ch,[]⟩=some st/\All st.cs/\∃g,dg c k g st.os XP)
theorem CG{r:Nat}(X:c.Ok)(F:oG c)(K:∀f,orc f=true->keepIn c.K (.ref f)=true)(K':∀f,orc' f=true->keepIn c.K (.ref f)=true){n k:Nat}{b:List MS}{σ:List O}{J:List O->Prop}
  (h:iE c r orc orc' EI rz n k b fi σ NP XP J) (hk:os.length<=k) {A:Around} {env:Env} {x:List Stmt} {s₀ s:Shared} {ρ9 ρ:List Addr} {l:List Env} {Q:Flow->Shared->Prop} {E:Value->Shared->Prop} (rm:ee A (n+r)) (en:dE env fi ρ)
  (ck:iT c.nm env.scope b x) (r0:c.Rs ρ9 os s₀ ρ σ s) (hlen:ρ9.length=os.length) (ad:e9 c ρ) (pe:PassesOwn c.M A env E) (fr:rz->iZ c.h₀ l A ρ σ s.heap)
  (q:∀ρ1 s1 fl N1 σ1,c.Rs ρ σ s ρ1 σ1 s1->qR ρ1 s1.heap fl N1->Dx c k NP J fl σ1->Q N1 s1) (qx:rz->∀ρ' s' a σ',XP σ'->d9 c EI l ρ9 os s₀ σ' ρ' a s'->E (.ref a) s'):wpAny c.M A (execs x env) Q (notedBy c.M A env (cameBackBy c.M A env E)) s:=by
 rcases h with⟨ch,fl,st,e,hc,a⟩ | ⟨hz,ch,st,e,hc,g,T⟩
 .obtain⟨_,k2⟩:=(gV (jQ (r:=r) (orc:=orc) X) (gO F K) n).2.2.1 _ _ _ _ _ e hc
  exact k2 A env x s ρ Q _ rm en ck r0.rel ad λρ1 s1 N1 r1 v1=>q ρ1 s1 fl N1 st.os r1 v1 a
 .obtain⟨_,k2⟩:=(mS (EI:=EI) (jQ (r:=r) (orc:=orc) X) (gO F K) (qg orc' K') n).2 _ _ _ _ e hc
  refine aK (k2 A env x s ρ l Q E rm en ck r0.rel ad (fr hz) pe λρ1 s1 a x1=>?_) (λI I y=>y) pe;obtain⟨ρ2,σ2,j,x2⟩:=d9.tell (c:=c) (d9.after (c:=c) r0 x1) T hk hlen;exact qx hz ρ2 s1 a σ2 j x2
theorem oo{r:Nat}(X:c.Ok)(F:oG c)(K:∀f,orc f=true->keepIn c.K (.ref f)=true)(K':∀f,orc' f=true->keepIn c.K (.ref f)=true){n k:Nat}{t:ME}{b:List MS}
  (hk:os.length<=k) (ge:Nat->List O->Prop)
  (turn:∀N σ,ge N σ->∃ch bb st,(ev (Bo c r orc).P n).t t fi ⟨σ,ch,[]⟩=some (bb,st)/\All st.cs/\match bb with
   |false=>∃g,dg c k g st.os (NP .next)
   |true=>iE c r orc orc' EI rz n k b fi st.os NP XP (λσ'=>∃N',N'<N/\ge N' σ'))
  (N:Nat) (h:ge N os):dL (c.at (n+r)) EI rz (.while t b) fi os NP XP:=by
 refine λA env x s ρ l Q E rm en ck R ad pe fr q qx=>?_;obtain⟨t',b',p,rfl,c1,c2⟩:=Cj _ _ ck;refine wpAny_While ?_;refine codeAny_whileLoop (λm s'=>∃ρ' σ',ge m σ'/\c.Rs ρ os s ρ' σ' s') (λm s' hI=>?_) N ⟨ρ,os,h,.refl R⟩;obtain⟨ρ1,σ1,i1,r1⟩:=hI;obtain⟨ch,bb,st,e,hc,more⟩:=turn m σ1 i1;obtain⟨_,k2⟩:=(gV (jQ (r:=r) (orc:=orc) X) (gO F K) n).2.1 _ _ _ _ _ e hc;refine k2 A env t' s' ρ1 _ _ rm (en.grow r1.grow) c1 r1.rel (eB.trans ad r1.grow) λρ2 s2 r2=>?_;have r12:c.Rs ρ os s ρ2 st.os s2:=r1.trans r2;cases bb with
 |false=>
  rw[if_neg ()];refine aM ?_;obtain⟨g,T⟩:=more;obtain⟨ρ3,σ3,j,r3,_⟩:=eR.tell (c:=c) r12 T hk R.len;exact q ρ3 s2 .next .next σ3 j r3 rfl
 |true=>
  rw[if_pos rfl];refine CG X F K K' more hk rm (en.grow r12.grow) c2 r12 R.len (eB.trans ad r12.grow) pe (λz=>(fr z).res (c:=c) r12) (λρ3 s3 fl N1 σ3 r3 v3 a=>?_) qx;have r13:c.Rs ρ os s ρ3 σ3 s3:=r12.trans r3;have again:(∃g,dg c k g σ3 (λσ'=>∃N',N'<m/\ge N' σ'))->∃m',m'<m/\∃ρ' σ',ge m' σ'/\c.Rs ρ os s ρ' σ' s3:=λ⟨g,T⟩=>by
   obtain⟨ρ4,σ4,⟨N',l1,l2⟩,r4,_⟩:=eR.tell (c:=c) r13 T hk R.len;exact⟨N',l1,ρ4,σ4,l2,r4⟩
  cases fl with
  |next=>cases v3;exact again a
  |cont=>cases v3;exact again a
  |brk=>
   cases v3;obtain⟨g,T⟩:=a;obtain⟨ρ4,σ4,j,r4,_⟩:=eR.tell (c:=c) r13 T hk R.len;exact q ρ4 s3 .next .next σ4 j r4 rfl
  |ret v=>
   obtain⟨y,rfl,vy⟩:=v3;obtain⟨g,w,rv,T⟩:=a;obtain⟨ρ4,σ4,j,r4,g4,_⟩:=eR.tell (c:=c) r13 T hk R.len;exact q ρ4 s3 (.ret w) (.ret y) σ4 j r4 ⟨y,rfl,rv.rep g4 vy⟩
theorem jF.res{Ia:Addr}{j:Nat}{ρ ρ':List Addr}{σ σ':List O}{s s':Shared}(r:c.Rs ρ σ s ρ' σ' s')(x:jF N2 Ia j ρ s.heap)(hI:Ia∉dA ρ σ):jF N2 Ia j ρ' s'.heap/\Ia∉dA ρ' σ':=by
 obtain⟨o,ho,_⟩:=x.obj;refine⟨x.same (λo e=>r.keep Ia o e hI) λi xs a I e=>r.grow i a e,λm=>?_⟩;rcases r.fresh Ia m with m | m
 .exact hI m
 .rw[ho] at m;cases m
theorem mi{nm:Nat->Str}{sc:Scope}{m:ME}{x:Expr}(h:dO nm sc m x)(hm:m≠ .oth)(env:Env)(v:Value):foldedSetIterable x env v=pure v:=by
 cases x with
 |Set es k p=>cases m<;>first | exact absurd rfl hm | exact absurd (show false=true from h) b8
 |_=>rfl
theorem vX{j:Nat}(hv:N2.at j=none)(hj:j<=N2.len):j=N2.len:=by
 cases N2 with
 |lst i xs=>
  have hv:nth xs j=none:=hv;rw[dP] at hv;exact Nat.le_antisymm hj (bW.mp hv)
 |rng n=>
  have hv:(if j<n then some (V.int true (j:Nat)) else none)=none:=hv
  by_cases z:j<n
  .rw[if_pos z] at hv;cases hv
  .exact Nat.le_antisymm hj (cF.mp z)
theorem sL{j:Nat}{v:V}(hv:N2.at j=some v):j<N2.len:=by
 cases N2 with
 |lst i xs=>exact fR hv
 |rng n=>
  have hv:(if j<n then some (V.int true (j:Nat)) else none)=some v:=hv
  by_cases z:j<n
  .exact z
  .rw[if_neg z] at hv;cases hv
theorem rN{r:Nat}(X:c.Ok)(F:oG c)(K:∀f,orc f=true->keepIn c.K (.ref f)=true)(K':∀f,orc' f=true->keepIn c.K (.ref f)=true){n k:Nat}{nn:Nm}{it:ME}{b:List MS}{σ1:List O}
  (hk:os.length<=k) (hi:uH (c.at (n+r)) it fi os N2 σ1) (hm:it≠ .oth) (ge:Nat->List O->Prop) (h0:ge 0 σ1) (hsrc:∀i xs,N2= .lst i xs->i<k) (hin:∀j σ,ge j σ->om N2 σ)
  (turn:∀j σ v,ge j σ->N2.at j=some v->∃st0,gQ ⟨σ,[],[]⟩ fi nn v=some st0/\iE c r orc orc' EI rz n k b fi st0.os NP XP (ge (j+1)))
  (fin:∀σ,ge N2.len σ->∃g,dg c k g σ (NP .next)):dL (c.at (n+r)) EI rz (.for nn it b) fi os NP XP:=by
 refine λA env x s ρ l Q E rm en ck R ad pe fr q qx=>?_;obtain⟨p,it',b',p',rfl,hl,c1,c2⟩:=GK _ _ ck;refine wpAny_For ?_ (mi c1 hm env);refine hi A env it' s ρ _ E rm en c1 R ad λρ0 s0 Ia r0 x0 n0 f0=>?_;refine codeAny_forLoop_any (λm s'=>∃j ρ' σ',m=N2.len - j/\j<=N2.len/\ge j σ'/\c.Rs ρ os s ρ' σ' s'/\jF N2 Ia j ρ' s'.heap/\Ia∉dA ρ' σ') (λm s' hI=>?_) N2.len ⟨0,ρ0,σ1,by omega,by omega,h0,r0,x0,n0⟩;obtain⟨j,ρ1,σ',em,hj,i1,r1,x1,n1⟩:=hI;rw[em];obtain⟨oI,hoI,hnI⟩:=x1.obj;cases hv:N2.at j with
 |none=>
  have hj':j=N2.len:=vX hv hj;refine yf rm.handled r1.rel (hin _ _ i1) x1 hv hj λh' kp=>?_;refine aM ?_;have r2:c.Rs ρ os s ρ1 σ' {s' with heap:=h'}:=r1.off R hoI hnI n1 f0 kp rfl rfl;obtain⟨g,T⟩:=fin σ' (hj'▸i1);obtain⟨ρ3,σ3,jj,r3,_⟩:=eR.tell (c:=c) r2 T hk R.len;exact q ρ3 _ .next .next σ3 jj r3 rfl
 |some v=>
  have hj':j<N2.len:=sL hv;obtain⟨st0,e0,T0⟩:=turn j σ' v i1 hv;refine uY r1.rel (hin _ _ i1) x1 hv λy h' tk vy x2 kp=>?_;have r2:c.Rs ρ os s ρ1 σ' {s' with heap:=h',toks:=tk}:=r1.off R hoI hnI n1 f0 kp rfl rfl;refine bV (a:=Unit.unit) rfl ?_;refine bN ?_;obtain⟨_,_,k2⟩:=d8 X e0;refine k2 A env _ ρ1 y _ _ (en.grow r2.grow) hl r2.rel vy λs3 r3=>?_;obtain⟨x3,n3⟩:=x2.res (c:=c) r3 n1;have r03:c.Rs ρ os s ρ1 st0.os s3:=r2.trans r3;refine CG X F K K' T0 hk rm (en.grow r2.grow) c2 r03 R.len (eB.trans ad r2.grow) pe (λz=>(fr z).res (c:=c) r03) (λρ4 s4 fl N1 σ4 r4 v4 a=>?_) qx;have r04:c.Rs ρ os s ρ4 σ4 s4:=r03.trans r4;obtain⟨x4,n4⟩:=x3.res (c:=c) r4 n3;have again:(∃g,dg c k g σ4 (ge (j+1)))->∃m',m'<N2.len - j/\∃j' ρ' σ',m'=N2.len - j'/\j'<=N2.len/\ge j' σ'/\c.Rs ρ os s ρ' σ' s4/\jF N2 Ia j' ρ' s4.heap/\Ia∉dA ρ' σ':=λ⟨g,T⟩=>by
   obtain⟨ρ5,σ5,jj,r5,_,g5,f5,_⟩:=eR.tell (c:=c) r04 T hk R.len;exact⟨N2.len - (j+1),cL hj' (aX j),j+1,ρ5,σ5,rfl,hj',jj,r5,x4.same (λI e=>e) (λi xs a e ea=>g5 i a (hsrc i xs e) ea),λm=>n4 (f5 _ m)⟩
  cases fl with
  |next=>cases v4;exact again a
  |cont=>cases v4;exact again a
  |brk=>
   cases v4;obtain⟨g,T⟩:=a;obtain⟨ρ5,σ5,jj,r5,_⟩:=eR.tell (c:=c) r04 T hk R.len;exact q ρ5 s4 .next .next σ5 jj r5 rfl
  |ret v=>
   obtain⟨y,rfl,vy⟩:=v4;obtain⟨g,w,rv,T⟩:=a;obtain⟨ρ5,σ5,jj,r5,g5,_⟩:=eR.tell (c:=c) r04 T hk R.len;exact q ρ5 s4 (.ret w) (.ret y) σ5 jj r5 ⟨y,rfl,rv.rep g5 vy⟩
end
section
set_option tactic.hygienic true
/-! a summary over few cells,used amid many -/
def back(l:List Nat)(m:Nat)(j:Nat):Option Nat:=match nth l j with
 |some i=>some i
 |none=>some (m+(j - l.length))
def Ab:List Nat->List O->List O->List O
 |[],_,os=>os
 |i::l,ns,os=>match ns with
  |[]=>os
  |o::ns=>Ab l ns (setN os i o)
abbrev fG(os:List O)(l:List Nat)(ns:List O):List O:=Ab l ns os
theorem iy:∀(os:List O) (l:List Nat) (ns:List O),(fG os l ns).length=os.length
 |os,[],_=>rfl
 |os,i::l,[]=>rfl
 |os,i::l,o::ns=>(iy (setN os i o) l ns).trans (pd _ _ _)
theorem zx(os:List O)(ns:List O):fG os [] ns=os:=rfl
theorem lj:∀{l:List Nat} {os ns:List O} {i:Nat},i∉l->nth (fG os l ns) i=nth os i
 |[],os,ns,i,_=>by rw[zx]
 |k::l,os,[],i,_=>rfl
 |k::l,os,o::ns,i,h=>by
  show nth (fG (setN os k o) l ns) i=_;rw[lj (λm=>h (.tail _ m)),j9 _ _ (λe=>h (by rw[e];exact .head _))]
theorem mY:∀{l:List Nat} {os ns:List O} {i j:Nat} {o:O},l.Nodup->nth l j=some i->nth ns j=some o->i<os.length->nth (fG os l ns) i=some o
 |[],_,_,_,_,_,_,h,_,_=>by cases h
 |k::l,os,[],_,_,_,_,_,h,_=>by cases h
 |k::l,os,x::ns,i,0,o,nd,h1,h2,hi=>by
  have h1:k=i:=ac h1;have h2:x=o:=ac h2;subst h1 h2;show nth (fG (setN os k x) l ns) k=_;rw[lj (List.nodup_cons.mp nd).1];have e:nth os k=some os[k]:=by rw[dP];exact List.getElem?_eq_getElem hi
  exact mv _ e
 |k::l,os,x::ns,i,j+1,o,nd,h1,h2,hi=>by
  show nth (fG (setN os k x) l ns) i=_;exact mY (List.nodup_cons.mp nd).2 h1 h2 (by rw[pd];exact hi)
theorem oC:∀{α:Type} {l:List α} {j:Nat} {x:α},nth l j=some x->x∈l
 |_,[],_,_,h=>by cases h
 |_,a::l,0,_,h=>by cases h;exact .head _
 |_,a::l,j+1,_,h=>.tail _ (oC (l:=l) h)
theorem rG{α:Type}{x:α}:∀{l:List α},x∈l->∃j,nth l j=some x
 |[],h=>by cases h
 |a::l,h=>(aD.mp h).elim (λe=>⟨0,az some e.symm⟩) λm=>let⟨j,e⟩:=rG m;⟨j+1,e⟩
theorem md{α:Type}:∀(l:List α) (m j:Nat),nth (l.drop m) j=nth l (m+j)
 |l,0,j=>by rw[List.drop_zero,bS]
 |[],m+1,j=>by rw[List.drop_nil];rfl
 |a::l,m+1,j=>by rw[List.drop_succ_cons,md l m j,bF];rfl
theorem oX{α:Type}:∀(l:List α) (m j:Nat),j<m->nth (l.take m) j=nth l j
 |l,0,j,h=>absurd h (cB _)
 |[],m+1,j,_=>by rw[List.take_nil]
 |a::l,m+1,0,_=>rfl
 |a::l,m+1,j+1,h=>oX l m j (Nat.lt_of_succ_lt_succ h)
theorem jP{α:Type}:∀(l r:List α) (j:Nat),nth (l++r) (l.length+j)=nth r j
 |[],r,j=>by rw[cP];show nth r (0+j)=_;rw[bS]
 |a::l,r,j=>by
  show nth (a::(l++r)) (l.length+1+j)=_;rw[bF];exact jP l r j
theorem kP{α:Type}:∀(l r:List α) (j:Nat),j<l.length->nth (l++r) j=nth l j
 |[],_,_,h=>absurd h (cB _)
 |a::l,r,0,_=>rfl
 |a::l,r,j+1,h=>kP l r j (Nat.lt_of_succ_lt_succ h)
theorem DU{α:Type}{l:List α}{j:Nat}(h:j<l.length):∃x,nth l j=some x:=by
 rw[dP];exact⟨_,List.getElem?_eq_getElem h⟩
nonrec theorem tZ{c:Cx}{os I' σs σs' news:List O}{s s':Shared}{ρ ρs':List Addr}{{l:List Nat}}(e:l.map (nth os ·)=I'.map some)(nd:l.Nodup)(S:ROs (fb l) I' σs)(B:ROs (back l os.length) σs' news)(R:c.R ρ os s.heap)(r:c.Rs (jx 0 l ρ) σs s ρs' σs' s'):c.Rs ρ os s (ρ++ρs'.drop l.length) (fG os l (news.take l.length)++news.drop l.length) s'/\
   (∀i j,back l os.length i=some j->∀a,nth ρs' i=some a->nth (ρ++ρs'.drop l.length) j=some a)/\
   (∀x∈dA (ρ++ρs'.drop l.length) (fG os l (news.take l.length)++news.drop l.length),x∈dA ρs' σs'\/(x∉dA (jx 0 l ρ) σs/\x∈dA ρ os/\∃y,s.heap.get? x=some y))/\
   ∀j b m,nth ρs' j=some b->nth σs' j=some (.frame m)->∃i m',nth (ρ++ρs'.drop l.length) i=some b/\nth (fG os l (news.take l.length)++news.drop l.length) i=some (.frame m'):=by
 have Sl:=uO e nd S;obtain⟨Rs,ft⟩:=R.sel Sl;have lenl:σs.length=l.length:=Sl.len;have lenp:(jx 0 l ρ).length=l.length:=by unfold jx;rw[List.length_map]
 have lin:∀i∈l,i<os.length:=λi m=>by
  obtain⟨j,ej⟩:=rG m;obtain⟨o,o',e1,_⟩:=Sl.cell j i ej;exact fR e1
 have len':ρs'.length=σs'.length:=r.rel.len;have lennews:news.length=σs'.length:=B.len;have le:l.length<=ρs'.length:=by
  rcases Nat.eq_zero_or_pos l.length with z | z
  .omega
  .obtain⟨a,ha⟩:=DU (l:=jx 0 l ρ) (j:=l.length - 1) (by rw[lenp];omega)
   have:=fR (r.grow _ _ ha);omega
 have old:∀j i,nth l j=some i->∃a,nth ρ i=some a/\nth ρs' j=some a:=λj i ej=>by
  obtain⟨o,o',e1,_⟩:=Sl.cell j i ej;obtain⟨a,ha⟩:=jI R.len.symm e1;exact⟨a,ha,r.grow _ _ (by rw[jh ej,ha];rfl)⟩
 have g:∀i j,back l os.length i=some j->∀a,nth ρs' i=some a->nth (ρ++ρs'.drop l.length) j=some a:=λi j q a ha=>by
  have q:(match nth l i with | some i=>some i | none=>some (os.length+(i - l.length)))=some j:=q;cases ek:nth l i with
  |some k=>
   rw[ek] at q;obtain rfl:=ac q;obtain⟨b,hb,hb'⟩:=old i _ ek;rw[ha] at hb';cases hb';exact jE _ hb
  |none=>
   rw[ek] at q;obtain rfl:=ac q;have hi:l.length<=i:=by
    rw[dP] at ek;exact bW.mp ek
   rw[<-R.len,jP,md,show l.length+(i - l.length)=i from by omega];exact ha
 have cls:∀i a o,nth (ρ++ρs'.drop l.length) i=some a->nth (fG os l (news.take l.length)++news.drop l.length) i=some o->
   (i<os.length/\i∉l/\nth ρ i=some a/\nth os i=some o)\/∃j o1,nth ρs' j=some a/\nth σs' j=some o1/\RO (back l os.length) o1 o/\back l os.length j=some i:=λi a o e1 e2=>by
  by_cases hi:i<os.length
  .rw[kP _ _ _ (by rw[R.len];exact hi)] at e1
   rw[kP _ _ _ (by rw[iy];exact hi)] at e2
   by_cases m:i∈l
   .obtain⟨j,ej⟩:=rG m
    obtain⟨b,hb,hb'⟩:=old j i ej;rw[e1] at hb;cases hb;obtain⟨o1,ho1⟩:=jI len' hb';obtain⟨o2,ho2,q⟩:=B.at ho1;have hj:j<l.length:=fR ej;rw[mY nd ej (by rw[oX _ _ _ hj];exact ho2) hi] at e2;cases e2;exact .inr ⟨j,o1,hb',ho1,q,by unfold back;rw[ej]⟩
   .rw[lj m] at e2
    exact .inl ⟨hi,m,e1,e2⟩
  .obtain⟨d,rfl⟩:∃d,i=os.length+d:=⟨i - os.length,by omega⟩
   rw[<-R.len,jP,md] at e1;rw[<-iy os l (news.take l.length),jP,md] at e2;obtain⟨o1,ho1⟩:=jI len' e1;obtain⟨o2,ho2,q⟩:=B.at ho1;rw[e2] at ho2;cases ho2;refine .inr ⟨_,o1,e1,ho1,q,?_⟩;unfold back;have:nth l (l.length+d)=none:=by rw[dP];exact bW.mpr (aA _ _)
   rw[this];show some (os.length+(l.length+d - l.length))=_;rw[Nat.add_sub_cancel_left]
 have foot_s:∀j a o1 o,nth ρs' j=some a->nth σs' j=some o1->RO (back l os.length) o1 o->j5 c.nm ⟨c.prog,c.w⟩ (ρ++ρs'.drop l.length) s'.heap a o/\foot a o=foot a o1:=λj a o1 o e1 e2 q=>
  q.rep g (r.rel.rep j a o1 e1 e2)
 have offs:∀i a o,i∉l->nth ρ i=some a->nth os i=some o->∀x∈foot a o,x∉dA (jx 0 l ρ) σs:=λi a o m e1 e2 x hx q=>by
  obtain⟨j,b,o',f1,f2,f3⟩:=dC.mp q;obtain⟨i',f4,f5⟩:=pL f1;obtain⟨o1,o2,g1,g2,y⟩:=Sl.cell j i' f4;rw[f2] at g2;cases g2;obtain⟨a',ha'⟩:=jI R.len.symm g1;rw[ha'] at f5;cases f5;have yy:=(y.rep (P:=⟨c.prog,c.w⟩) (nm:=c.nm) (ρ:=ρ) (ρ':=jx 0 l ρ) (h:=s.heap) (λi j q a ha=>by rw[jh (Sl.back i j q),ha];rfl) (R.at ha' g1)).2;have f3:x∈foot a' o':=f3;rw[yy] at f3;exact R.apart i i' a a' o o1 e1 e2 ha' g1 (λz=>m (z▸oC f4)) x hx f3
 have there:∀i a o,nth ρ i=some a->nth os i=some o->∀x∈foot a o,∃y,s.heap.get? x=some y:=λi a o e1 e2 x hx=>(R.rep i a o e1 e2).there x hx;have offs':∀i a o,i∉l->nth ρ i=some a->nth os i=some o->∀x∈foot a o,x∉dA ρs' σs':=λi a o m e1 e2 x hx q=>by
  rcases r.fresh x q with z | z
  .exact offs i a o m e1 e2 x hx z
  .obtain⟨y,hy⟩:=there i a o e1 e2 x hx
   rw[hy] at z;cases z
 have ftall:∀x∈dA (ρ++ρs'.drop l.length) (fG os l (news.take l.length)++news.drop l.length),x∈dA ρ os\/(x∈dA ρs' σs'):=λx hx=>by
  obtain⟨i,a,o,f1,f2,f3⟩:=dC.mp hx;rcases cls i a o f1 f2 with⟨hi,m,g1,g2⟩ | ⟨j,o1,g1,g2,y,_⟩
  .exact .inl (dC.mpr ⟨i,a,o,g1,g2,f3⟩)
  .rw[(foot_s j a o1 o g1 g2 y).2] at f3
   exact .inr (dC.mpr ⟨j,a,o1,g1,g2,f3⟩)
 have ftall2:∀x∈dA (ρ++ρs'.drop l.length) (fG os l (news.take l.length)++news.drop l.length),x∈dA ρs' σs'\/(x∉dA (jx 0 l ρ) σs/\x∈dA ρ os/\∃y,s.heap.get? x=some y):=λx hx=>by
  obtain⟨i,a,o,f1,f2,f3⟩:=dC.mp hx;rcases cls i a o f1 f2 with⟨hi,m,g1,g2⟩ | ⟨j,o1,g1,g2,y,_⟩
  .exact .inr ⟨offs i a o m g1 g2 x f3,dC.mpr ⟨i,a,o,g1,g2,f3⟩,there i a o g1 g2 x f3⟩
  .rw[(foot_s j a o1 o g1 g2 y).2] at f3
   exact .inl (dC.mpr ⟨j,a,o1,g1,g2,f3⟩)
 have frs:∀j b m,nth ρs' j=some b->nth σs' j=some (.frame m)->∃i m',nth (ρ++ρs'.drop l.length) i=some b/\nth (fG os l (news.take l.length)++news.drop l.length) i=some (.frame m'):=λj b m e1 e2=>by
  obtain⟨o2,ho2,q⟩:=B.at e2;obtain⟨m',rfl,_⟩:=q;cases hb:back l os.length j with
  |none=>
   have hb:(match nth l j with | some i=>some i | none=>some (os.length+(j - l.length)))=none:=hb;cases ek:nth l j<;>(rw[ek] at hb;cases hb)
  |some i=>
   refine⟨i,m',g j i hb b e1,?_⟩;have hb:(match nth l j with | some i=>some i | none=>some (os.length+(j - l.length)))=some i:=hb;cases ek:nth l j with
   |some k=>
    rw[ek] at hb;obtain rfl:=ac hb;rw[kP _ _ _ (by rw[iy];exact lin _ (oC ek))];exact mY nd ek (by rw[oX _ _ _ (fR ek)];exact ho2) (lin _ (oC ek))
   |none=>
    rw[ek] at hb;obtain rfl:=ac hb;have hi:l.length<=j:=by
     rw[dP] at ek;exact bW.mp ek
    rw[<-iy os l (news.take l.length),jP,md,show l.length+(j - l.length)=j from by omega];exact ho2
 have kp:∀b x,s.heap.get? b=some x->b∉dA (jx 0 l ρ) σs->s'.heap.get? b=some x:=r.keep;have tk:fU s.heap s'.heap:=r.tk Rs;refine⟨⟨λi a q=>jE _ q,⟨?_,λi a o e1 e2=>?_,λi j a b o q e1 e2 e3 e4 ne x hx hx'=>?_,λx hx=>?_,r.rel.old⟩,λb x q m=>kp b x q λz=>m (ft b z),λx hx=>?_,r.gens,r.os,λi m q=>?_⟩,g,ftall2,frs⟩
 .rw[ai,ai,iy,R.len,List.length_drop,List.length_drop,len',lennews]
 .rcases cls i a o e1 e2 with⟨hi,m,g1,g2⟩ | ⟨j,o1,g1,g2,y,_⟩
  .exact(R.rep i a o g1 g2).up (.app _ _) tk λb hb x q=>kp b x q (offs i a o m g1 g2 b hb)
  .exact(foot_s j a o1 o g1 g2 y).1
 .rcases cls i a o e1 e2 with⟨hi,m,g1,g2⟩ | ⟨j1,o1,g1,g2,y,b1⟩
  .rcases cls j b q e3 e4 with⟨hj,m',k1,k2⟩ | ⟨j2,o2,k1,k2,y2,b2⟩
   .exact R.apart i j a b o q g1 g2 k1 k2 ne x hx hx'
   .rw[(foot_s j2 b o2 q k1 k2 y2).2] at hx'
    exact offs' i a o m g1 g2 x hx (dC.mpr ⟨j2,b,o2,k1,k2,hx'⟩)
  .rw[(foot_s j1 a o1 o g1 g2 y).2] at hx
   rcases cls j b q e3 e4 with⟨hj,m',k1,k2⟩ | ⟨j2,o2,k1,k2,y2,b2⟩
   .exact offs' j b q m' k1 k2 x hx' (dC.mpr ⟨j1,a,o1,g1,g2,hx⟩)
   .rw[(foot_s j2 b o2 q k1 k2 y2).2] at hx'
    exact r.rel.apart j1 j2 a b o1 o2 g1 g2 k1 k2 (λz=>by subst z;rw[b1] at b2;exact ne (ac b2)) x hx hx'
 .rcases ftall x hx with z | z
  .exact R.new x z
  .exact r.rel.new x z
 .rcases ftall x hx with z | z
  .exact .inl z
  .rcases r.fresh x z with y | y
   .exact .inl (ft x y)
   .exact .inr y
 .have hi:=fR q
  rw[kP _ _ _ (by rw[iy];exact hi)]
  by_cases mm:i∈l
  .obtain⟨j,ej⟩:=rG mm
   obtain⟨o1,o2,e1,e2,y⟩:=Sl.cell j i ej;rw[q] at e1;cases e1;obtain⟨b',rfl,_⟩:=y;obtain⟨m2,e3⟩:=r.frm j b' e2;obtain⟨o3,e4,y3⟩:=B.at e3;obtain⟨b3,rfl,_⟩:=y3;exact⟨b3,mY nd ej (by rw[oX _ _ _ (fR ej)];exact e4) hi⟩
  .exact⟨m,by rw[lj mm];exact q⟩
theorem fJ.frame{c:Cx}{l:List Nat}{os I' σs σs' news:List O}(hads:c.P.ads=[]){f:Nat}{vss vs:List V}{v w:V}(H:fJ c f vss σs v σs')(e:l.map (nth os ·)=I'.map some)(nd:l.Nodup)(S:ROs (fb l) I' σs)(rvs:RVs (fb l) vs vss)
  (B:ROs (back l os.length) σs' news) (rw':RV (back l os.length) v w):fJ c f vs os w (fG os l (news.take l.length)++news.drop l.length):=by
 refine λA xs s ρ Q E rm R ad vr q=>?_;have Sl:=uO e nd S;refine H A xs s (jx 0 l ρ) Q E rm (R.sel Sl).1 (by unfold e9;rw[hads];intro i a z;cases z) (rvs.rep (λi j q a ha=>by rw[jh (Sl.back i j q),ha];rfl) vr) λρs' s' y r vy=>?_;obtain⟨r2,g,_⟩:=tZ e nd S B R r;exact q _ s' y r2 (rw'.rep g vy)
theorem eU.frame{c:Cx}{l:List Nat}{os I' σs σs' news:List O}{EI:eW}(hads:c.P.ads=[]){f:Nat}{vss vs:List V}(H:eU c EI f vss σs σs')(e:l.map (nth os ·)=I'.map some)(nd:l.Nodup)(S:ROs (fb l) I' σs)(rvs:RVs (fb l) vs vss)
  (B:ROs (back l os.length) σs' news):eU c EI f vs os (fG os l (news.take l.length)++news.drop l.length):=by
 refine λA xs s ρ L E rm R ad fr vr q=>?_;have Sl:=uO e nd S;obtain⟨Rsm,ft⟩:=R.sel Sl;refine H A xs s (jx 0 l ρ) L E rm Rsm (by unfold e9;rw[hads];intro i a z;cases z) ⟨fr.fr,fr.ff,λb m hb=>?_⟩ (rvs.rep (λi j q a ha=>by rw[jh (Sl.back i j q),ha];rfl) vr) λρs' s' a x=>?_
 .obtain⟨i,m',e1,e2⟩:=fr.ap b m (ft b hb)
  exact AG R Sl b hb i m' e1 e2
 .obtain⟨sm,fs,h1,h2,h3,h4,h5,h6,h7,h8,h9,h10⟩:=x
  obtain⟨r2,g,fa,fr2⟩:=tZ e nd S B R h1;have nw:∀b,s.heap.get? b=none\/b∈dA (jx 0 l ρ) σs->s.heap.get? b=none\/b∈dA ρ os:=λb z=>z.imp id (ft b);refine q _ s' a ⟨sm,fs,r2,h2,h3,h4,h5,λb m hb=>?_,λm=>?_,h8,λb m=>(h9 b m).imp id (nw b),nw a h10⟩
  .rcases fa b hb with z | ⟨z1,z2,y,z3⟩
   .obtain⟨j,m',e1,e2⟩:=h6 b m z
    exact fr2 j b m' e1 e2
   .rcases h9 b m with k | k | k
    .obtain⟨i,m',e1,e2⟩:=fr.ap b k z2
     obtain⟨m2,e3⟩:=r2.frm i m' e2;exact⟨i,m2,r2.grow _ _ e1,e3⟩
    .rw[z3] at k;cases k
    .exact absurd k z1
  .rcases fa a m with z | ⟨z1,z2,y,z3⟩
   .exact h7 z
   .rcases h10 with k | k
    .rw[z3] at k;cases k
    .exact z1 k
end
abbrev cU:Nat:=0
abbrev du:Nat:=1
abbrev dj:Nat:=2
abbrev jO:Nat:=3
abbrev fW:Nat:=4
abbrev dU:Nat:=5
abbrev lq:Nat:=6
abbrev KL:Nat:=7
abbrev io:Nat:=8
abbrev lP:Nat:=9
abbrev cV:Nat:=10
abbrev dY:Nat:=11
abbrev dS:Nat:=12
abbrev ib:Nat:=13
abbrev oO:Nat:=14
abbrev DH:Nat:=15
abbrev vt:Nat:=16
abbrev C4:Nat:=17
abbrev mh:Nat:=18
abbrev HO:Nat:=19
abbrev CN:Nat:=20
abbrev vm:Nat:=21
abbrev Hr:Nat:=22
abbrev AM:Nat:=23
abbrev HL:Nat:=24
abbrev E5:Nat:=25
abbrev EO:Nat:=26
abbrev Dp:Nat:=27
abbrev qp:Nat:=28
abbrev AW:Nat:=30
abbrev dW:Nat:=31
abbrev zn:Nat:=32
abbrev Dq:Nat:=34
abbrev tr:Nat:=35
abbrev mR:Nat:=36
abbrev tG:Nat:=37
abbrev yn:Nat:=38
abbrev sM:Nat:=39
abbrev dX:Nat:=40
abbrev dN:Nat:=41
abbrev g8:Nat:=43
abbrev iS:Nat:=44
abbrev jd:Nat:=45
abbrev ia:Nat:=48
abbrev HD:Nat:=56
abbrev zW:Nat:=66
abbrev dt:Nat:=67
abbrev uG:Nat:=68
abbrev E8:Nat:=69
abbrev vV:Nat:=70
abbrev rR:Nat:=71
abbrev uF:Nat:=72
abbrev tK:Nat:=73
abbrev tM:Nat:=74
abbrev cS:Nat:=75
abbrev gK:Nat:=76
abbrev yw:Nat:=77
abbrev AL:Nat:=79
abbrev Jm:Nat:=82
abbrev gJ:Nat:=83
abbrev wZ:Nat:=88
abbrev Ck:Nat:=89
abbrev B9:Nat:=90
abbrev xZ:Nat:=91
abbrev B7:Nat:=92
abbrev yU:Nat:=93
abbrev DR:Nat:=94
abbrev w5:Nat:=95
abbrev yx:Nat:=96
abbrev wL:Nat:=97
abbrev B8:Nat:=98
abbrev BH:Nat:=99
abbrev yd:Nat:=101
abbrev o0:Nat:=102
abbrev dq:Nat:=103
abbrev iJ:Nat:=104
abbrev nj:Nat:=105
abbrev EZ:Nat:=106
abbrev gZ:Nat:=107
abbrev dB:Nat:=108
abbrev dQ:Nat:=109
abbrev DS:Nat:=110
abbrev HI:Nat:=111
abbrev Fp:Nat:=112
abbrev yj:Nat:=113
abbrev Iy:Nat:=114
abbrev zD:Nat:=115
abbrev Ex:Nat:=116
abbrev iM:Nat:=117
abbrev yi:Nat:=118
abbrev te:Nat:=119
abbrev Gx:Nat:=120
abbrev oR:Nat:=121
abbrev rk:Nat:=122
abbrev uE:Nat:=123
abbrev qP:Nat:=124
abbrev IB:Nat:=125
abbrev wt:Nat:=126
abbrev Bl:Nat:=127
abbrev F4:Nat:=128
abbrev G1:Nat:=129
abbrev Ca:Nat:=130
abbrev DD:Nat:=131
abbrev cT:Nat:=132
abbrev Av:Nat:=133
abbrev Fy:Nat:=134
abbrev La:Nat:=135
abbrev vA:Nat:=136
abbrev ty:Nat:=137
abbrev pa:Nat:=138
abbrev gw:Nat:=139
abbrev dK:Nat:=140
abbrev fS:Nat:=141
abbrev gL:Nat:=142
abbrev eP:Nat:=143
abbrev eH:Nat:=145
abbrev xX:Nat:=146
abbrev qf:Nat:=147
abbrev F3:Nat:=148
abbrev gk:Nat:=149
abbrev fF:Nat:=150
abbrev yv:Nat:=151
abbrev fL:Nat:=152
abbrev fy:Nat:=153
abbrev EJ:Nat:=154
abbrev Bh:Nat:=155
abbrev vj:Nat:=156
abbrev Cl:Nat:=157
abbrev G7:Nat:=158
abbrev vd:Nat:=159
abbrev ey:Nat:=160
abbrev ly:Nat:=161
abbrev j8:Nat:=162
abbrev kY:Nat:=163
abbrev k9:Nat:=164
abbrev gl:Nat:=165
abbrev nL:Nat:=166
abbrev ym:Nat:=167
abbrev hK:Nat:=168
abbrev gW:Nat:=169
abbrev nh:Nat:=170
abbrev rT:Nat:=171
abbrev kE:Nat:=172
abbrev pA:Nat:=173
abbrev dR:Nat:=174
abbrev wo:Nat:=175
abbrev eK:Nat:=176
abbrev lO:Nat:=177
abbrev BV:Nat:=178
abbrev kX:Nat:=180
abbrev iO:Nat:=181
abbrev yH:Nat:=182
abbrev oQ:Nat:=183
abbrev ec:Nat:=184
abbrev HK:Nat:=185
abbrev lE:Nat:=186
abbrev gF:Nat:=187
abbrev iV:Nat:=188
abbrev ku:Nat:=189
abbrev qG:Nat:=190
abbrev kq:Nat:=191
def wp:List Str:=(["node","kind","found","waiting","len","part","isinstance","str","parts","is_plain_text","self","orders","order","with_texts_joined","row_of","put","put_choice","SINGLE","emit","ONE","WAYS","put_repeat","ALONE","PLACE","ASK","MARK","NAME","SET","ends","split","SPLIT","at","JUMP","leave","GAIN","goal","code","PatternCode","DONE","straightened","number","told","tree","owner","key","value","Failure","width","text","digits","sign","ord","fits","left","abs","chr","int","whole_of_text","text_of_whole","to_text","count","to_whole","WIDTH_OF_COUNT","need_text","Pattern","Delayed","tuple","host","COUNTED","SIGNED","is_delayed","value_of","is_fail","plain_count","plain_signs","subject","end","many","place","signs","is_in","run_end","list","range","level","OPENING","CLOSING","bal_end","chars_end","len_end","pos_end","rpos_end","tab_end","rtab_end","any_at","notany_at","span_end","break_end","rem_end","one_end","arb_ends","bal_ends","pc","named","marks","calls","Way","history","begin","way","step","MET","ABORT","OVER","done","way_back","FAILED","word","met_once","copied","ended","assign","other","settled","plain_end","FAIL","met_often","ends_of","asked","FENCE","SUCCEED","last","is_anchored","how","Match","run","named_rows","match_orders","compile_pattern","values","limit","refused","steps","log","get","ref","match_at","LOST","tried","pile","chain","advanced","here","rest","led_in","led_out","pattern_of","steered","taken","plain","box","form","_law_take","some","names","is_fenced","bare","_law_end","front","behind","first","_law_row","rounds","later","is_made","PlainHost","script","one","NameRef","join","due","ahead","_law_due","_law_heard","without_end","min","wrong","SnobolError","match_compiled","match_plain","_law_part","turn"]:List String).map Str.ofString
def wa:List MS:=[(.asgD [dj,jO] [(.lst []),(.lst [(.loc cU)])]),(.while (.cmp .Gt (.call (.glb fW) [(.loc jO)]) (.cst (.int 0))) [(.asg dU (.lmeth 1 (.loc jO) [])),(.ite (.cmp .Eq (.item (.loc dU) (.cst (.int 0))) (.loc du)) [(.expr (.lmeth 2 (.loc jO) [(.lst [(.item (.loc dU) (.cst (.int 2))),(.item (.loc dU) (.cst (.int 1)))])]))] [(.expr (.lmeth 0 (.loc dj) [(.loc dU)]))])]),(.ret (some (.loc dj)))]
def q8:List MS:=[(.ret (some (.bop true [(.cmp .Eq (.item (.loc cU) (.cst (.int 0))) (.cst (.str (S [99,104,97,114,115])))),(.call (.glb lq) [(.item (.loc cU) (.cst (.int 1))),(.glb KL)])])))]
def jB:List MS:=[(.asg dj (.lst [])),(.for dU (.loc io) [(.ite (.call (.glb lP) [(.loc dU)]) [(.ite (.cmp .Eq (.item (.loc dU) (.cst (.int 1))) (.cst (.str (S [])))) [.cont] []),(.ite (.bop true [(.cmp .Gt (.call (.glb fW) [(.loc dj)]) (.cst (.int 0))),(.call (.glb lP) [(.item (.loc dj) (.bin .Sub (.call (.glb fW) [(.loc dj)]) (.cst (.int 1))))])]) [(.asg dU (.tup [(.cst (.str (S [99,104,97,114,115]))),(.bin .Add (.item (.lmeth 1 (.loc dj) []) (.cst (.int 1))) (.item (.loc dU) (.cst (.int 1))))]))] [])] []),(.expr (.lmeth 0 (.loc dj) [(.loc dU)]))]),(.ret (some (.loc dj)))]
def nZ:List MS:=[(.asgA (.loc cV) dY (.lst []))]
def oa:List MS:=[(.expr (.lmeth 0 (.attr (.loc cV) dY) [(.loc dS)])),(.ret (some (.bin .Sub (.call (.glb fW) [(.attr (.loc cV) dY)]) (.cst (.int 1)))))]
def kg:List MS:=[(.asg du (.item (.loc cU) (.cst (.int 0)))),(.ite (.cmp .Eq (.loc du) (.cst (.str (S [99,97,116])))) [(.for dU (.call (.glb ib) [(.call (.glb oO) [(.loc cU),(.cst (.str (S [99,97,116])))])]) [(.expr (.meth (.loc cV) DH [(.loc dU)]))])] [(.ite (.cmp .Eq (.loc du) (.cst (.str (S [97,108,116])))) [(.expr (.meth (.loc cV) vt [(.call (.glb oO) [(.loc cU),(.cst (.str (S [97,108,116])))])]))] [(.ite (.cmp .In (.loc du) (.glb C4)) [(.expr (.meth (.loc cV) mh [(.tup [(.glb HO),(.loc du),(.ite (.cmp .Gt (.call (.glb fW) [(.loc cU)]) (.cst (.int 1))) (.item (.loc cU) (.cst (.int 1))) (.cst .none))])]))] [(.ite (.bop false [(.cmp .Eq (.loc du) (.cst (.str (S [97,114,98])))),(.cmp .Eq (.loc du) (.cst (.str (S [98,97,108]))))]) [(.expr (.meth (.loc cV) mh [(.tup [(.glb CN),(.loc du)])]))] [(.ite (.cmp .Eq (.loc du) (.cst (.str (S [97,114,98,110,111])))) [(.expr (.meth (.loc cV) vm [(.item (.loc cU) (.cst (.int 1)))]))] [(.ite (.cmp .In (.loc du) (.glb Hr)) [(.expr (.meth (.loc cV) mh [(.tup [(.loc du)])]))] [(.ite (.cmp .Eq (.loc du) (.cst (.str (S [99,117,114,115,111,114])))) [(.expr (.meth (.loc cV) mh [(.tup [(.glb AM),(.item (.loc cU) (.cst (.int 1)))])]))] [(.ite (.cmp .Eq (.loc du) (.cst (.str (S [100,101,108,97,121])))) [(.expr (.meth (.loc cV) mh [(.tup [(.glb HL),(.item (.loc cU) (.cst (.int 1)))])]))] [(.expr (.meth (.loc cV) mh [(.tup [(.glb E5)])])),(.expr (.meth (.loc cV) DH [(.item (.loc cU) (.cst (.int 1)))])),(.expr (.meth (.loc cV) mh [(.tup [(.ite (.cmp .Eq (.loc du) (.cst (.str (S [108,97,116,101,114])))) (.glb EO) (.glb Dp)),(.item (.loc cU) (.cst (.int 2)))])]))])])])])])])])])]
def mw:List MS:=[(.asg dj (.lst [])),(.for dS (.loc dY) [(.ite (.cmp .In (.item (.loc dS) (.cst (.int 0))) (.tup [(.glb zn),(.glb AW)])) [(.asg tr (.item (.loc dS) (.cst (.int 1)))),(.while (.cmp .Eq (.item (.item (.loc dY) (.loc tr)) (.cst (.int 0))) (.glb zn)) [(.asg tr (.item (.item (.loc dY) (.loc tr)) (.cst (.int 1))))]),(.asg dS (.tup [(.item (.loc dS) (.cst (.int 0))),(.loc tr)]))] []),(.expr (.lmeth 0 (.loc dj) [(.loc dS)]))]),(.ret (some (.loc dj)))]
def ph:List MS:=[(.asg mR (.call (.glb tG) [])),(.expr (.meth (.loc mR) DH [(.loc cU)])),(.expr (.meth (.loc mR) mh [(.tup [(.glb yn)])])),(.ret (some (.call (.glb sM) [(.attr (.loc mR) dY)])))]
def tg:List MS:=[(.asgA (.loc cV) du (.loc du)),(.asgA (.loc cV) g8 (.loc g8)),(.asgA (.loc cV) iS (.loc iS))]
def u0:List MS:=[(.ret (some (.call (.glb lq) [(.loc dN),(.glb zW)])))]
def Bq:List MS:=[(.ite (.bop false [(.bop true [(.cmp .NotIn (.item (.loc cU) (.cst (.int 0))) (.glb uG)),(.cmp .NotIn (.item (.loc cU) (.cst (.int 0))) (.glb E8))]),(.not (.call (.glb vV) [(.item (.loc cU) (.cst (.int 1)))]))]) [(.ret (some (.loc cU)))] []),(.asg jd (.meth (.loc dt) rR [(.item (.item (.loc cU) (.cst (.int 1))) (.cst (.int 1)))])),(.ite (.call (.glb uF) [(.loc jd)]) [(.ret (some (.cst .none)))] []),(.ite (.cmp .In (.item (.loc cU) (.cst (.int 0))) (.glb uG)) [(.ret (some (.tup [(.item (.loc cU) (.cst (.int 0))),(.call (.glb tK) [(.loc jd),(.item (.loc cU) (.cst (.int 0)))])])))] []),(.ret (some (.tup [(.item (.loc cU) (.cst (.int 0))),(.call (.glb tM) [(.loc jd),(.item (.loc cU) (.cst (.int 0)))])])))]
def wx:List MS:=[(.asg gK (.bin .Add (.loc dW) (.call (.glb fW) [(.loc ia)]))),(.ret (some (.ite (.cmp .Eq (.slice (.loc cS) (some (.loc dW)) (some (.loc gK))) (.loc ia)) (.loc gK) (.cst .none))))]
def Bi:List MS:=[(.ret (some (.ite (.cmp .LtE (.bin .Add (.loc dW) (.loc yw)) (.call (.glb fW) [(.loc cS)])) (.bin .Add (.loc dW) (.loc yw)) (.cst .none))))]
def Bj:List MS:=[(.ret (some (.call (.glb fW) [(.loc cS)])))]
def Et:List MS:=[(.ret (some (.ite (.bop true [(.cmp .Lt (.loc dW) (.call (.glb fW) [(.loc cS)])),(.cmp .In (.item (.loc cS) (.loc dW)) (.loc AL))]) (.bin .Add (.loc dW) (.cst (.int 1))) (.cst .none))))]
def Bt:List MS:=[(.ite (.cmp .Eq (.loc du) (.cst (.str (S [99,104,97,114,115])))) [(.ret (some (.call (.glb wZ) [(.loc cS),(.loc dW),(.loc dN)])))] []),(.ite (.cmp .Eq (.loc du) (.cst (.str (S [108,101,110])))) [(.ret (some (.call (.glb Ck) [(.loc cS),(.loc dW),(.loc dN)])))] []),(.ite (.cmp .Eq (.loc du) (.cst (.str (S [112,111,115])))) [(.ret (some (.call (.glb B9) [(.loc dW),(.loc dN)])))] []),(.ite (.cmp .Eq (.loc du) (.cst (.str (S [114,112,111,115])))) [(.ret (some (.call (.glb xZ) [(.loc cS),(.loc dW),(.loc dN)])))] []),(.ite (.cmp .Eq (.loc du) (.cst (.str (S [116,97,98])))) [(.ret (some (.call (.glb B7) [(.loc cS),(.loc dW),(.loc dN)])))] []),(.ite (.cmp .Eq (.loc du) (.cst (.str (S [114,116,97,98])))) [(.ret (some (.call (.glb yU) [(.loc cS),(.loc dW),(.loc dN)])))] []),(.ite (.cmp .Eq (.loc du) (.cst (.str (S [97,110,121])))) [(.ret (some (.call (.glb DR) [(.loc cS),(.loc dW),(.loc dN)])))] []),(.ite (.cmp .Eq (.loc du) (.cst (.str (S [110,111,116,97,110,121])))) [(.ret (some (.call (.glb w5) [(.loc cS),(.loc dW),(.loc dN)])))] []),(.ite (.cmp .Eq (.loc du) (.cst (.str (S [115,112,97,110])))) [(.ret (some (.call (.glb yx) [(.loc cS),(.loc dW),(.loc dN)])))] []),(.ret (some (.call (.glb wL) [(.loc cS),(.loc dW),(.loc dN)])))]
def wI:List MS:=[(.ret (some (.ite (.cmp .Eq (.item (.loc cU) (.cst (.int 0))) (.cst (.str (S [114,101,109])))) (.call (.glb B8) [(.loc cS)]) (.call (.glb BH) [(.item (.loc cU) (.cst (.int 0))),(.loc cS),(.loc dW),(.item (.loc cU) (.cst (.int 1)))]))))]
def zA:List MS:=[(.asgA (.loc cV) dY (.loc dY)),(.asgA (.loc cV) o0 (.loc o0)),(.asgA (.loc cV) dW (.loc dW)),(.asgA (.loc cV) dq (.loc dq)),(.asgA (.loc cV) iJ (.loc iJ)),(.asgA (.loc cV) nj (.loc nj))]
def uJ:List MS:=[(.ret (some (.call (.glb EZ) [(.attr (.loc cV) dY),(.loc o0),(.attr (.loc cV) dW),(.attr (.loc cV) dq),(.attr (.loc cV) iJ),(.attr (.loc cV) nj)])))]
def uS:List MS:=[(.asgA (.loc cV) cS (.loc cS)),(.asgA (.loc cV) dt (.loc dt)),(.asgA (.loc cV) gZ (.lst []))]
def qQ:List MS:=[(.asg dQ (.call (.glb EZ) [(.loc dY),(.cst (.int 0)),(.loc dB),(.cst .none),(.cst .none),(.cst .none)])),(.while (.cmp .IsNot (.loc dQ) (.cst .none)) [(.expr (.meth (.attr (.loc cV) dt) DS [])),(.asg dS (.item (.attr (.loc dQ) dY) (.attr (.loc dQ) o0))),(.ite (.bop true [(.cmp .Eq (.item (.loc dS) (.cst (.int 0))) (.glb yn)),(.cmp .Is (.attr (.loc dQ) nj) (.cst .none))]) [(.ret (some (.tup [(.glb HI),(.loc dQ)])))] []),(.ite (.cmp .Eq (.item (.loc dS) (.cst (.int 0))) (.glb Fp)) [(.ret (some (.tup [(.glb yj),(.cst .none)])))] []),(.ite (.not (.meth (.loc cV) Iy [(.loc dS),(.loc dQ)])) [(.asg dQ (.meth (.loc cV) zD [])),(.ite (.bop true [(.cmp .IsNot (.loc dQ) (.cst .none)),(.cmp .Is (.attr (.loc dQ) dY) (.cst .none))]) [(.ret (some (.tup [(.glb yj),(.cst .none)])))] [])] [])]),(.ret (some (.tup [(.glb Ex),(.cst .none)])))]
def qb:List MS:=[(.ret (some (.ite (.cmp .Gt (.call (.glb fW) [(.attr (.loc cV) gZ)]) (.cst (.int 0))) (.lmeth 1 (.attr (.loc cV) gZ) []) (.cst .none))))]
def vN:List MS:=[(.asg iM (.item (.loc dS) (.cst (.int 0)))),(.ite (.cmp .Eq (.loc iM) (.glb HO)) [(.ret (some (.meth (.loc cV) yi [(.loc dS),(.loc dQ)])))] []),(.ite (.cmp .Eq (.loc iM) (.glb AW)) [(.expr (.lmeth 0 (.attr (.loc cV) gZ) [(.meth (.loc dQ) te [(.item (.loc dS) (.cst (.int 1)))])]))] [(.ite (.cmp .Eq (.loc iM) (.glb zn)) [(.asgA (.loc dQ) o0 (.item (.loc dS) (.cst (.int 1)))),(.ret (some (.cst (.bool true))))] [(.ite (.cmp .Eq (.loc iM) (.glb E5)) [(.asgA (.loc dQ) iJ (.tup [(.attr (.loc dQ) iJ),(.attr (.loc dQ) dW)]))] [(.ite (.cmp .In (.loc iM) (.tup [(.glb EO),(.glb Dp),(.glb Dq)])) [(.ite (.not (.meth (.loc cV) Gx [(.loc dS),(.loc dQ)])) [(.ret (some (.cst (.bool false))))] [])] [(.ite (.cmp .Eq (.loc iM) (.glb AM)) [(.ite (.not (.meth (.attr (.loc cV) dt) oR [(.item (.loc dS) (.cst (.int 1))),(.attr (.loc dQ) dW)])) [(.ret (some (.cst (.bool false))))] [])] [(.ret (some (.meth (.loc cV) rk [(.loc dS),(.loc dQ)])))])])])])]),(.augA (.loc dQ) o0 .Add (.cst (.int 1))),(.ret (some (.cst (.bool true))))]
def pY:List MS:=[(.asg dN (.item (.loc dS) (.cst (.int 2)))),(.ite (.call (.glb lq) [(.loc dN),(.glb zW)]) [(.asg cU (.call (.glb uE) [(.tup [(.item (.loc dS) (.cst (.int 1))),(.loc dN)]),(.attr (.loc cV) dt)])),(.ite (.cmp .Is (.loc cU) (.cst .none)) [(.ret (some (.cst (.bool false))))] []),(.asg dN (.item (.loc cU) (.cst (.int 1))))] []),(.asg gK (.call (.glb qP) [(.tup [(.item (.loc dS) (.cst (.int 1))),(.loc dN)]),(.attr (.loc cV) cS),(.attr (.loc dQ) dW)])),(.ite (.cmp .Is (.loc gK) (.cst .none)) [(.ret (some (.cst (.bool false))))] []),(.asgA (.loc dQ) dW (.loc gK)),(.augA (.loc dQ) o0 .Add (.cst (.int 1))),(.ret (some (.cst (.bool true))))]
def tU:List MS:=[(.asgT [iJ,dB] (.attr (.loc dQ) iJ)),(.asgA (.loc dQ) iJ (.loc iJ)),(.asg ia (.slice (.attr (.loc cV) cS) (some (.loc dB)) (some (.attr (.loc dQ) dW)))),(.ite (.cmp .Eq (.item (.loc dS) (.cst (.int 0))) (.glb Dq)) [(.ret (some (.cmp .Gt (.attr (.loc dQ) dW) (.loc dB))))] []),(.ite (.cmp .Eq (.item (.loc dS) (.cst (.int 0))) (.glb Dp)) [(.ret (some (.meth (.attr (.loc cV) dt) oR [(.item (.loc dS) (.cst (.int 1))),(.loc ia)])))] []),(.asgA (.loc dQ) dq (.tup [(.attr (.loc dQ) dq),(.tup [(.item (.loc dS) (.cst (.int 1))),(.loc ia)])])),(.ret (some (.cst (.bool true))))]
def tR:List MS:=[(.asg iM (.item (.loc dS) (.cst (.int 0)))),(.ite (.cmp .Eq (.loc iM) (.glb IB)) [(.ret (some (.cst (.bool false))))] []),(.ite (.cmp .Eq (.loc iM) (.glb CN)) [(.ret (some (.meth (.loc cV) wt [(.loc dQ),(.call (.glb Bl) [(.item (.loc dS) (.cst (.int 1))),(.attr (.loc cV) cS),(.attr (.loc dQ) dW),(.cst .none)])])))] []),(.ite (.cmp .Eq (.loc iM) (.glb HL)) [(.ret (some (.meth (.loc cV) F4 [(.item (.loc dS) (.cst (.int 1))),(.loc dQ)])))] []),(.ite (.cmp .Eq (.loc iM) (.glb yn)) [.oth,(.ret (some (.cst (.bool true))))] []),(.ite (.cmp .Eq (.loc iM) (.glb G1)) [(.expr (.lmeth 0 (.attr (.loc cV) gZ) [(.call (.glb EZ) [(.cst .none),(.cst (.int 0)),(.cst (.int 0)),(.cst .none),(.cst .none),(.cst .none)])]))] [(.ite (.cmp .Eq (.loc iM) (.glb Ca)) [(.expr (.lmeth 0 (.attr (.loc cV) gZ) [(.meth (.loc dQ) te [(.attr (.loc dQ) o0)])]))] [])]),(.augA (.loc dQ) o0 .Add (.cst (.int 1))),(.ret (some (.cst (.bool true))))]
def ol:List MS:=[(.ite (.cmp .Eq (.call (.glb fW) [(.loc qp)]) (.cst (.int 0))) [(.ret (some (.cst (.bool false))))] []),(.augA (.loc dQ) o0 .Add (.cst (.int 1))),(.for gK .oth [(.asg rk (.meth (.loc dQ) te [(.attr (.loc dQ) o0)])),(.asgA (.loc rk) dW (.loc gK)),(.expr (.lmeth 0 (.attr (.loc cV) gZ) [(.loc rk)]))]),(.asgA (.loc dQ) dW (.item (.loc qp) (.cst (.int 0)))),(.ret (some (.cst (.bool true))))]
def oN:List MS:=[(.asg dj (.lst [])),(.while (.cmp .IsNot (.loc dq) (.cst .none)) [(.asgT [dq,DD] (.loc dq)),(.expr (.lmeth 0 (.loc dj) [(.loc DD)]))]),(.expr (.lmeth 3 (.loc dj) [])),(.ret (some (.loc dj)))]
def mF:List MS:=[(.for dB (.call (.glb gJ) [(.ite (.loc cT) (.cst (.int 1)) (.bin .Add (.call (.glb fW) [(.loc cS)]) (.cst (.int 1))))]) [(.asgT [Av,dQ] (.meth (.call (.glb Fy) [(.loc cS),(.loc dt)]) La [(.loc dY),(.loc dB)])),(.ite (.cmp .Eq (.loc Av) (.glb HI)) [(.ret (some (.tup [(.loc dB),(.attr (.loc dQ) dW),(.call (.glb vA) [(.attr (.loc dQ) dq)])])))] []),(.ite (.cmp .Eq (.loc Av) (.glb yj)) [(.ret (some (.cst .none)))] [])]),(.ret (some (.cst .none)))]
def qj:List MS:=[(.ret (some (.call (.glb ty) [(.call (.glb pa) [(.loc cU)]),(.loc cS),(.loc cT),(.loc dt)])))]
def p9:List MS:=[(.asgA (.loc cV) gw (.loc gw)),(.asgA (.loc cV) dK (.loc dK)),(.asgA (.loc cV) fS (.loc fS)),(.asgA (.loc cV) gL (.cst (.int 0))),(.asgA (.loc cV) eP (.lst []))]
def n7:List MS:=[(.ite (.cmp .In (.attr (.loc eH) iS) (.attr (.loc cV) fS)) [(.ret (some (.cst (.bool false))))] []),(.asgI (.attr (.loc cV) gw) (.attr (.loc eH) iS) (.loc jd)),(.expr (.lmeth 0 (.attr (.loc cV) eP) [(.tup [(.attr (.loc eH) iS),(.loc jd)])])),(.ret (some (.cst (.bool true))))]
def gi:List MS:=[(.augA (.loc cV) gL .Add (.cst (.int 1))),(.ite (.cmp .Gt (.attr (.loc cV) gL) (.attr (.loc cV) dK)) [.oth] [])]
def nF:List MS:=[(.for dB (.call (.glb gJ) [(.ite (.loc cT) (.cst (.int 1)) (.bin .Add (.call (.glb fW) [(.loc cS)]) (.cst (.int 1))))]) [(.asg dj (.call (.glb xX) [(.loc cU),(.loc cS),(.loc dB),(.loc dt)])),(.ite (.cmp .IsNot (.loc dj) (.cst .none)) [(.ret (some (.ite (.cmp .Eq (.loc dj) (.glb qf)) (.cst .none) (.loc dj))))] [])]),(.ret (some (.cst .none)))]
def yY:List MS:=[(.asg dj (.call (.glb F3) [(.loc cU),(.loc cS),(.loc dB),(.loc dt)])),(.ret (some (.ite (.bop false [(.cmp .Is (.loc dj) (.cst .none)),(.cmp .Eq (.loc dj) (.glb qf))]) (.loc dj) (.tup [(.loc dB),(.item (.loc dj) (.cst (.int 0))),(.item (.loc dj) (.cst (.int 1)))]))))]
def Aj:List MS:=[(.asg gk (.lst [(.tup [(.tup [(.loc cU),(.cst .none)]),(.loc dB),(.tup [])])])),(.while (.cmp .Gt (.call (.glb fW) [(.loc gk)]) (.cst (.int 0))) [(.asg dQ (.lmeth 1 (.loc gk) [])),(.ite (.cmp .Is (.loc dQ) (.cst .none)) [(.ret (some (.glb qf)))] []),(.asgT [fF,dW,dq] (.loc dQ)),(.while (.cmp .IsNot (.loc fF) (.cst .none)) [(.expr (.meth (.loc dt) DS [])),(.asg dQ (.call (.glb yv) [(.loc fF),(.loc dW),(.loc dq),(.loc cS),(.loc gk),(.loc dt)])),(.ite (.cmp .Is (.loc dQ) (.cst .none)) [.brk] []),(.ite (.cmp .Eq (.loc dQ) (.glb qf)) [(.ret (some (.glb qf)))] []),(.asgT [fF,dW,dq] (.loc dQ))]),(.ite (.cmp .Is (.loc fF) (.cst .none)) [(.ret (some (.tup [(.loc dW),(.call (.glb Jm) [(.loc dq)])])))] [])]),(.ret (some (.cst .none)))]
def yB:List MS:=[(.asgT [fL,fy] (.loc fF)),(.asg du (.item (.loc fL) (.cst (.int 0)))),(.ite (.cmp .In (.loc du) (.tup [(.cst (.str (S [99,97,116]))),(.cst (.str (S [97,108,116]))),(.cst (.str (S [97,114,98,110,111]))),(.cst (.str (S [108,97,116,101,114]))),(.cst (.str (S [110,111,119])))])) [(.ret (some (.call (.glb EJ) [(.loc fL),(.loc fy),(.loc dW),(.loc dq),(.loc gk)])))] []),(.ite (.cmp .Eq (.slice (.loc du) none (some (.cst (.int 4)))) (.cst (.str (S [101,110,100,32])))) [(.ret (some (.call (.glb Bh) [(.loc fL),(.loc fy),(.loc dW),(.loc dq),(.loc cS),(.loc gk),(.loc dt)])))] []),(.ite (.cmp .Eq (.loc du) (.cst (.str (S [99,117,114,115,111,114])))) [(.ret (some (.ite (.meth (.loc dt) oR [(.item (.loc fL) (.cst (.int 1))),(.loc dW)]) (.tup [(.loc fy),(.loc dW),(.loc dq)]) (.cst .none))))] []),(.ite (.cmp .Eq (.loc du) (.cst (.str (S [100,101,108,97,121])))) [(.asg jd (.meth (.loc dt) rR [(.item (.loc fL) (.cst (.int 1)))])),(.ret (some (.ite (.call (.glb uF) [(.loc jd)]) (.cst .none) (.tup [(.tup [(.call (.glb vj) [(.loc jd)]),(.loc fy)]),(.loc dW),(.loc dq)]))))] []),(.ite (.cmp .In (.loc du) (.tup [(.cst (.str (S [102,101,110,99,101]))),(.cst (.str (S [97,98,111,114,116]))),(.cst (.str (S [102,97,105,108]))),(.cst (.str (S [115,117,99,99,101,101,100])))])) [(.ret (some (.call (.glb Cl) [(.loc fF),(.loc dW),(.loc dq),(.loc gk)])))] []),(.ret (some (.call (.glb G7) [(.loc fL),(.loc fy),(.loc dW),(.loc dq),(.loc cS),(.loc gk),(.loc dt)])))]
def EW:List MS:=[(.asg du (.item (.loc fL) (.cst (.int 0)))),(.ite (.cmp .Eq (.loc du) (.cst (.str (S [99,97,116])))) [(.ret (some (.tup [(.tup [(.item (.loc fL) (.cst (.int 1))),(.tup [(.item (.loc fL) (.cst (.int 2))),(.loc fy)])]),(.loc dW),(.loc dq)])))] []),(.ite (.cmp .Eq (.loc du) (.cst (.str (S [97,108,116])))) [(.expr (.lmeth 0 (.loc gk) [(.tup [(.tup [(.item (.loc fL) (.cst (.int 2))),(.loc fy)]),(.loc dW),(.loc dq)])])),(.ret (some (.tup [(.tup [(.item (.loc fL) (.cst (.int 1))),(.loc fy)]),(.loc dW),(.loc dq)])))] []),(.ite (.cmp .Eq (.loc du) (.cst (.str (S [97,114,98,110,111])))) [(.expr (.lmeth 0 (.loc gk) [(.tup [(.tup [(.item (.loc fL) (.cst (.int 1))),(.tup [(.tup [(.cst (.str (S [101,110,100,32,114,111,117,110,100]))),(.loc fL),(.loc dW)]),(.loc fy)])]),(.loc dW),(.loc dq)])])),(.ret (some (.tup [(.loc fy),(.loc dW),(.loc dq)])))] []),(.ret (some (.tup [(.tup [(.item (.loc fL) (.cst (.int 1))),(.tup [(.tup [(.bin .Add (.cst (.str (S [101,110,100,32]))) (.loc du)),(.item (.loc fL) (.cst (.int 2))),(.loc dW)]),(.loc fy)])]),(.loc dW),(.loc dq)])))]
def Bx:List MS:=[(.asgT [du,dN,dB] (.loc fL)),(.ite (.cmp .Eq (.loc du) (.cst (.str (S [101,110,100,32,108,97,116,101,114])))) [(.ret (some (.tup [(.loc fy),(.loc dW),(.bin .Add (.loc dq) (.tup [(.tup [(.loc dN),(.slice (.loc cS) (some (.loc dB)) (some (.loc dW)))])]))])))] []),(.ite (.cmp .Eq (.loc du) (.cst (.str (S [101,110,100,32,110,111,119])))) [(.ret (some (.ite (.meth (.loc dt) oR [(.loc dN),(.slice (.loc cS) (some (.loc dB)) (some (.loc dW)))]) (.tup [(.loc fy),(.loc dW),(.loc dq)]) (.cst .none))))] []),(.ret (some (.ite (.cmp .Eq (.loc dW) (.loc dB)) (.cst .none) (.tup [(.tup [(.loc dN),(.loc fy)]),(.loc dW),(.loc dq)]))))]
def BY:List MS:=[(.asgD [du,fy] [(.item (.item (.loc fF) (.cst (.int 0))) (.cst (.int 0))),(.item (.loc fF) (.cst (.int 1)))]),(.ite (.cmp .Eq (.loc du) (.cst (.str (S [97,98,111,114,116])))) [(.ret (some (.glb qf)))] []),(.ite (.cmp .Eq (.loc du) (.cst (.str (S [102,97,105,108])))) [(.ret (some (.cst .none)))] []),(.expr (.lmeth 0 (.loc gk) [(.ite (.cmp .Eq (.loc du) (.cst (.str (S [102,101,110,99,101])))) (.cst .none) (.tup [(.loc fF),(.loc dW),(.loc dq)]))])),(.ret (some (.tup [(.loc fy),(.loc dW),(.loc dq)])))]
def GQ:List MS:=[(.asg du (.item (.loc fL) (.cst (.int 0)))),(.ite (.cmp .Eq (.loc du) (.cst (.str (S [97,114,98])))) [(.ite (.cmp .Lt (.loc dW) (.call (.glb fW) [(.loc cS)])) [(.expr (.lmeth 0 (.loc gk) [(.tup [(.tup [(.loc fL),(.loc fy)]),(.bin .Add (.loc dW) (.cst (.int 1))),(.loc dq)])]))] []),(.ret (some (.tup [(.loc fy),(.loc dW),(.loc dq)])))] []),(.ite (.cmp .Eq (.loc du) (.cst (.str (S [98,97,108])))) [(.asg qp (.call (.glb yd) [(.loc cS),(.loc dW)])),(.for gK .oth [(.expr (.lmeth 0 (.loc gk) [(.tup [(.loc fy),(.loc gK),(.loc dq)])]))]),(.ret (some (.ite (.cmp .Gt (.call (.glb fW) [(.loc qp)]) (.cst (.int 0))) (.tup [(.loc fy),(.item (.loc qp) (.cst (.int 0))),(.loc dq)]) (.cst .none))))] []),(.asg vd (.call (.glb uE) [(.loc fL),(.loc dt)])),(.ite (.cmp .Is (.loc vd) (.cst .none)) [(.ret (some (.cst .none)))] []),(.asg gK (.call (.glb qP) [(.loc vd),(.loc cS),(.loc dW)])),(.ret (some (.ite (.cmp .Is (.loc gK) (.cst .none)) (.cst .none) (.tup [(.loc fy),(.loc gK),(.loc dq)]))))]
def zB:List MS:=[(.ite (.cmp .Gt (.call (.glb fW) [(.item (.loc ey) (.cst (.int 0)))]) (.cst (.int 0))) [(.ret (some (.bin .Mod (.lmeth 1 (.item (.loc ey) (.cst (.int 0))) [(.cst (.int 0))]) (.loc dK))))] []),(.asgI (.loc ey) (.cst (.int 1)) (.bin .Mod (.bin .Add (.bin .Mult (.item (.loc ey) (.cst (.int 1))) (.cst (.int 4093))) (.cst (.int 12289))) (.cst (.int 1000003)))),(.ret (some (.bin .Mod (.bin .FloorDiv (.item (.loc ey) (.cst (.int 1))) (.cst (.int 8))) (.loc dK))))]
def yD:List MS:=[(.asg ly (.call (.glb j8) [(.loc ey),(.cst (.int 8))])),(.asg kY (.lst [(.tup [(.cst (.str (S [99,104,97,114,115]))),(.cst (.str (S [97])))]),(.tup [(.cst (.str (S [99,104,97,114,115]))),(.cst (.str (S [98])))]),(.tup [(.cst (.str (S [108,101,110]))),(.cst (.int 1))]),(.tup [(.cst (.str (S [97,110,121]))),(.cst (.str (S [97,98])))]),(.tup [(.cst (.str (S [102,101,110,99,101])))]),(.tup [(.cst (.str (S [97,98,111,114,116])))]),(.tup [(.cst (.str (S [102,97,105,108])))]),(.tup [(.cst (.str (S [108,101,110]))),(.cst (.int 0))])])),(.asg dQ (.call (.glb j8) [(.loc ey),(.cst (.int 4))])),(.ite (.cmp .Eq (.loc dQ) (.cst (.int 1))) [(.ret (some (.tup [(.cst (.str (S [110,111,119]))),(.item (.loc kY) (.loc ly)),(.loc eH)])))] []),(.ite (.cmp .Eq (.loc dQ) (.cst (.int 2))) [(.ret (some (.tup [(.cst (.str (S [108,97,116,101,114]))),(.item (.loc kY) (.loc ly)),(.loc eH)])))] []),(.ret (some (.ite (.cmp .Eq (.loc dQ) (.cst (.int 3))) (.tup [(.cst (.str (S [99,117,114,115,111,114]))),(.loc eH)]) (.item (.loc kY) (.loc ly)))))]
def B0:List MS:=[(.ite (.cmp .Eq (.item (.loc dU) (.cst (.int 0))) (.cst (.str (S [102,97,105,108])))) [(.ret (some (.cst .none)))] []),(.asg gK (.bin .Add (.loc dW) (.ite (.cmp .Eq (.item (.loc dU) (.cst (.int 0))) (.cst (.str (S [108,101,110])))) (.item (.loc dU) (.cst (.int 1))) (.cst (.int 1))))),(.ret (some (.ite (.bop false [(.cmp .Gt (.loc gK) (.call (.glb fW) [(.loc cS)])),(.bop true [(.cmp .NotEq (.item (.loc dU) (.cst (.int 0))) (.cst (.str (S [108,101,110])))),(.cmp .NotIn (.item (.loc cS) (.loc dW)) (.item (.loc dU) (.cst (.int 1))))])]) (.cst .none) (.loc gK))))]
def uq:List MS:=[(.asgD [k9,gl] [(.lst []),(.cst (.bool false))]),(.for dU (.loc io) [(.asgD [nL,gK] [(.ite (.cmp .In (.item (.loc dU) (.cst (.int 0))) (.tup [(.cst (.str (S [110,111,119]))),(.cst (.str (S [108,97,116,101,114])))])) (.item (.loc dU) (.cst (.int 1))) (.loc dU)),(.loc dW)]),(.ite (.cmp .Eq (.item (.loc nL) (.cst (.int 0))) (.cst (.str (S [97,98,111,114,116])))) [(.ret (some (.cst (.str (S [111,118,101,114])))))] []),(.ite (.cmp .Eq (.item (.loc nL) (.cst (.int 0))) (.cst (.str (S [102,101,110,99,101])))) [(.asg gl (.cst (.bool true)))] [(.ite (.cmp .Eq (.item (.loc nL) (.cst (.int 0))) (.cst (.str (S [99,117,114,115,111,114])))) [(.expr (.lmeth 0 (.loc eP) [(.tup [(.cst (.str (S [75]))),(.loc dW)])]))] [(.asg gK (.call (.glb ym) [(.loc nL),(.loc cS),(.loc dW)])),(.ite (.cmp .Is (.loc gK) (.cst .none)) [(.ret (some (.ite (.loc gl) (.cst (.str (S [111,118,101,114]))) (.cst .none))))] [])])]),(.ite (.cmp .Eq (.item (.loc dU) (.cst (.int 0))) (.cst (.str (S [110,111,119])))) [(.expr (.lmeth 0 (.loc eP) [(.tup [(.cst (.str (S [75]))),(.slice (.loc cS) (some (.loc dW)) (some (.loc gK)))])]))] []),(.ite (.cmp .Eq (.item (.loc dU) (.cst (.int 0))) (.cst (.str (S [108,97,116,101,114])))) [(.expr (.lmeth 0 (.loc k9) [(.tup [(.cst (.str (S [75]))),(.slice (.loc cS) (some (.loc dW)) (some (.loc gK)))])]))] []),(.asg dW (.loc gK))]),(.ret (some (.tup [(.loc dW),(.loc k9),(.loc gl)])))]
def t9:List MS:=[(.asg eP (.lst [])),(.for dB (.call (.glb gJ) [(.ite (.loc cT) (.cst (.int 1)) (.bin .Add (.call (.glb fW) [(.loc cS)]) (.cst (.int 1))))]) [(.asg nh (.call (.glb rT) [(.loc hK),(.loc cS),(.loc dB),(.loc eP)])),(.ite (.cmp .Eq (.loc nh) (.cst (.str (S [111,118,101,114])))) [(.ret (some (.tup [(.tup [(.cst (.str (S [110,111,110,101])))]),(.loc eP)])))] []),(.ite (.cmp .IsNot (.loc nh) (.cst .none)) [(.asg kE (.lst [])),(.asg pA (.call (.glb rT) [(.loc gW),(.loc cS),(.item (.loc nh) (.cst (.int 0))),(.loc kE)])),(.ite (.cmp .Is (.loc pA) (.cst .none)) [(.ret (some (.tup [(.tup [(.cst (.str (S [114,111,117,110,100]))),(.loc kE)]),(.loc eP)])))] []),(.ite (.cmp .Eq (.loc pA) (.cst (.str (S [111,118,101,114])))) [(.ret (some (.tup [(.tup [(.cst (.str (S [110,111,110,101])))]),(.bin .Add (.loc eP) (.loc kE))])))] []),(.ret (some (.tup [(.tup [(.cst (.str (S [109,101,116]))),(.loc dB),(.item (.loc pA) (.cst (.int 0))),(.bin .Add (.item (.loc nh) (.cst (.int 1))) (.item (.loc pA) (.cst (.int 1))))]),(.bin .Add (.loc eP) (.loc kE))])))] [])]),(.ret (some (.tup [(.tup [(.cst (.str (S [110,111,110,101])))]),(.loc eP)])))]
def gm:List MS:=[(.asg dt (.call (.glb wo) [.dct,(.loc dK),(.lst [])])),.oth,(.ite (.cmp .Is (.loc dj) (.cst .none)) [(.ret (some (.tup [(.tup [(.cst (.str (S [110,111,110,101])))]),(.attr (.loc dt) eP)])))] []),(.ret (some (.tup [(.tup [(.cst (.str (S [109,101,116]))),(.item (.loc dj) (.cst (.int 0))),(.item (.loc dj) (.cst (.int 1))),.oth]),(.attr (.loc dt) eP)])))]
def HW:List (Nat×List Nm×List MS):=[(23,[cU,du],wa),(30,[cU],q8),(37,[io],jB),(51,[cV],nZ),(58,[cV,dS],oa),(65,[cV,cU],kg),(93,[dY],mw),(100,[cU],ph),(193,[cV,du,g8,iS],tg),(279,[dN],u0),(286,[cU,dt],Bq),(293,[cS,dW,ia],wx),(300,[cS,dW,yw],Bi),(335,[cS],Bj),(342,[cS,dW,AL],Et),(398,[du,cS,dW,dN],Bt),(405,[cU,cS,dW],wI),(426,[cV,dY,o0,dW,dq,iJ,nj],zA),(433,[cV,o0],uJ),(454,[cV,cS,dt],uS),(461,[cV,dY,dB],qQ),(468,[cV],qb),(475,[cV,dS,dQ],vN),(482,[cV,dS,dQ],pY),(489,[cV,dS,dQ],tU),(496,[cV,dS,dQ],tR),(503,[cV,dQ,qp],ol),(524,[dq],oN),(531,[dY,cS,cT,dt],mF),(538,[cU,cS,cT,dt],qj),(552,[cV,gw,dK,fS],p9),(566,[cV,eH,jd],n7),(573,[cV],gi),(587,[cU,cS,cT,dt],nF),(594,[cU,cS,dB,dt],yY),(601,[cU,cS,dB,dt],Aj),(608,[fF,dW,dq,cS,gk,dt],yB),(615,[fL,fy,dW,dq,gk],EW),(622,[fL,fy,dW,dq,cS,gk,dt],Bx),(629,[fF,dW,dq,gk],BY),(636,[fL,fy,dW,dq,cS,gk,dt],GQ),(643,[ey,dK],zB),(650,[ey,eH],yD),(657,[dU,cS,dW],B0),(664,[io,cS,dW,eP],uq),(671,[hK,gW,cS,cT],t9),(676,[dR,cU,cS,cT,dK],gm)]
def AK:List (Nat×V):=[(19,.str false "one"),(20,.str false "ways"),(30,.str false "split"),(32,.str false "jump"),(25,.str false "mark"),(26,.str false "name"),(27,.str false "set"),(34,.str false "gain"),(23,.str false "place"),(24,.str false "ask"),(129,.str false "fence"),(125,.str false "fail"),(112,.str false "abort"),(130,.str false "succeed"),(38,.str false "done"),(17,.tup [.str false "chars",.str false "len",.str false "pos",.str false "rpos",.str false "tab",.str false "rtab",.str false "any",.str false "notany",.str false "span",.str false "break",.str false "rem"]),(22,.tup [.str false "fence",.str false "fail",.str false "abort",.str false "succeed"]),(14,.val (.ref 23)),(9,.val (.ref 30)),(13,.val (.ref 37)),(37,.val (.ref 82)),(39,.val (.ref 93)),(138,.val (.ref 100)),(46,.val (.ref 133)),(64,.val (.ref 154)),(65,.val (.ref 175)),(178,.val (.ref 196)),(72,.val (.ref 207)),(52,.val (.ref 214)),(57,.val (.ref 221)),(58,.val (.ref 228)),(61,.val (.ref 235)),(59,.val (.ref 242)),(63,.val (.ref 249)),(68,.tup [.str false "len",.str false "pos",.str false "rpos",.str false "tab",.str false "rtab"]),(69,.tup [.str false "any",.str false "notany",.str false "span",.str false "break"]),(62,.int false 64),(73,.val (.ref 258)),(74,.val (.ref 265)),(156,.val (.ref 272)),(70,.val (.ref 279)),(123,.val (.ref 286)),(85,.str false "("),(86,.str false ")"),(88,.val (.ref 293)),(89,.val (.ref 300)),(90,.val (.ref 307)),(91,.val (.ref 314)),(92,.val (.ref 321)),(93,.val (.ref 328)),(98,.val (.ref 335)),(94,.val (.ref 342)),(95,.val (.ref 349)),(81,.val (.ref 356)),(96,.val (.ref 363)),(97,.val (.ref 370)),(100,.val (.ref 377)),(87,.val (.ref 384)),(101,.val (.ref 391)),(99,.val (.ref 398)),(124,.val (.ref 405)),(127,.val (.ref 412)),(111,.int false 0),(116,.int false 1),(113,.int false 2),(106,.val (.ref 436)),(134,.val (.ref 513)),(136,.val (.ref 524)),(137,.val (.ref 531)),(175,.val (.ref 576)),(147,.str false "lost"),(146,.val (.ref 594)),(148,.val (.ref 601)),(151,.val (.ref 608)),(154,.val (.ref 615)),(155,.val (.ref 622)),(157,.val (.ref 629)),(158,.val (.ref 636)),(162,.val (.ref 643)),(167,.val (.ref 657)),(171,.val (.ref 664)),(182,.val (.ref 671)),(183,.val (.ref 676)),(4,.bi 0),(6,.bi 1),(7,.bi 2),(66,.bi 3),(82,.bi 4),(56,.bi 5),(83,.bi 6),(185,.bi 7),(187,.val (.ref 120)),(188,.val (.ref 538)),(189,.val (.ref 587)),(190,.val (.ref 650))]
def sS:List (Nat×Nat×List (Nat×Nat)):=[(82,51,[(18,58),(15,65),(16,72),(21,79)]),(196,193,[]),(436,426,[(119,433)]),(513,454,[(135,461),(115,468),(114,475),(118,482),(120,489),(122,496),(126,503),(128,510)]),(576,552,[(71,559),(121,566),(110,573)])]
def uP:List (Nat×List Nat):=[(82,[11]),(196,[1,43,44]),(436,[11,102,31,103,104,105]),(513,[75,67,107]),(576,[139,140,141,142,143])]
def nmT(i:Nat):Str:=match nth wp i with
 |some s=>s
 |none=>⟨#[2000000+i]⟩
def BP(n:Nat):List Nat->Bool
 |[]=>false
 |a::l=>match Nat.beq a n with
  |true=>true
  |false=>BP n l
def oh:tV where
 ads:=[]
 fn:=λa=>jA a HW
 cls:=λa=>match jA a sS with
  |some (i,_)=>match i with
   |0=>none
   |i+1=>some (i+1)
  |none=>none
 meth:=λa n=>match jA a sS with
  |some (_,l)=>jA n l
  |none=>none
 fld:=λa n=>match jA a uP with
  |some l=>BP n l
  |none=>false
 glob:=λn=>jA n AK
 orc:=λI=>false
 spec:=λI I I I I=>False
 specL:=λI I I I I=>False
 room:=0
def Pg(orc:Nat->Bool)(sp:jC)(sl:jz)(r:Nat):tV:={oh with orc:=orc,room:=r,spec:=sp,specL:=sl}
def Rg(orc:Nat->Bool)(sp:Nat->List V->List O->List O->Prop)(sl:MS->Nat->List O->List O->Prop):sD:=⟨orc,sp,sl⟩
def fe(l:List Nat)(f:Nat):Bool:=BP f l
def nK(scope:Scope):Bool:=scope.kind== .function&&scope.names.all (λx=>x.2 != .cell&&x.2 != .free)&&scope.names.all (λy=>y.2 != .local||scope.names.lookup y.1==some .local)
/-! shapes:a text,told by z' skeleton;what is not told is taken from the text itself -/
def uW(scope:Scope):Scope:={scope with names:=scope.names.map λ(n,k)=>if k== .free then(n,.cell) else(n,k)}
def zI(nm:Nat->Str)(scope:Scope)(fr:List Nm):Bool:=
 scope.kind== .function&&scope.names.all (λx=>x.2 != .cell)&&scope.names.all (λy=>y.2 != .local||scope.names.lookup y.1==some .local)&&
 scope.names.all (λy=>y.2 != .free||fr.any (λn=>nm n==y.1))&&fr.all (λn=>(uW scope).names.lookup (nm n)==some .cell&&scope.names.any (λy=>y.1==nm n&&y.2== .free))
def JX(y:Stmt):ExceptHandler:=(gf y).hs.headD (.ExceptHandler none none [] default)
def LG(n:Nm)(y:Expr):Bool:=Nat.beq (de y).t 11&&(de y).x==nmT n
section
variable{a b:Bool} {P:Prop}
theorem b2(h:(a&&b)=true)(k:a->b->P):P:=k (cW h).1 (cW h).2
theorem b3{c:Bool}(h:(a&&b&&c)=true)(k:a->b->c->P):P:=b2 h λh=>b2 h k
theorem b4{c d:Bool}(h:(a&&b&&c&&d)=true)(k:a->b->c->d->P):P:=b2 h λh=>b3 h k
theorem b5{c d e:Bool}(h:(a&&b&&c&&d&&e)=true)(k:a->b->c->d->e->P):P:=b2 h λh=>b4 h k
theorem Fi{α β γ:Type}(F:α->β->γ){a a':α}{b b':β}(h:a=a')(k:b=b'):F a b=F a' b':=by rw[h,k]
theorem Ir{α β γ δ:Type}(F:α->β->γ->δ){a a':α}{b b':β}{c c':γ}(h:a=a')(k:b=b')(l:c=c'):F a b c=F a' b' c':=by rw[h,k,l]
theorem yI{n:Nm}{y:Expr}(h:LG n y):y= .Name (nmT n) (kQ y):=b2 h λt x=>(mM t).trans (az (Expr.Name · (kQ y)) (am.mp x))
theorem MG{g:Comprehension}(h:g.ifs.isEmpty)(k:decide (g.is_async=0)):g=⟨g.target,g.iter,[],0⟩:=(show g=⟨g.target,g.iter,g.ifs,g.is_async⟩ from by cases g;rfl).trans (Fi (Comprehension.mk g.target g.iter) (iq h) (aS k))
structure Sk(α:Type) where
 b:α->α
 f:Scope->α->Prop
 ok:Scope->α->Bool
 pf:∀{sc:Scope} {y:α},ok sc y=true->y=b y/\f sc y
abbrev bE{α:Type}(k:Sk α)(y:α):α:=k.b y
abbrev fE{α:Type}(sc:Scope)(k:Sk α)(y:α):Prop:=k.f sc y
abbrev Fj{α:Type}(sc:Scope)(k:Sk α)(y:α):Bool:=k.ok sc y
theorem qE{α:Type}{sc:Scope}{k:Sk α}{y:α}(h:Fj sc k y):y=bE k y/\fE sc k y:=k.pf h
def Sk.any{α:Type}:Sk α:=⟨λy=>y,λI I=>True,λI I=>true,λI=>⟨rfl,N4⟩⟩
def Sk.nil{α:Type}:Sk (List α):=⟨λI=>[],λI I=>True,λI y=>y.isEmpty,λh=>⟨iq h,N4⟩⟩
def Sk.cons{α:Type}[Inhabited α](a:Sk α)(l:Sk (List α)):Sk (List α) where
 b y:=a.b (y.headD default)::l.b y.tail
 f sc y:=a.f sc (y.headD default)/\l.f sc y.tail
 ok sc y:= !y.isEmpty&&a.ok sc (y.headD default)&&l.ok sc y.tail
 pf h:=b3 h λt a l=>⟨(ry t).trans (Fi List.cons (Sk.pf _ a).1 (Sk.pf _ l).1),(Sk.pf _ a).2,(Sk.pf _ l).2⟩
def Sk.l{α:Type}[Inhabited α]:List (Sk α)->Sk (List α):=List.foldr .cons .nil
def Sk.no{α:Type}:Sk (Option α):=⟨λI=>none,λI I=>True,λI y=>y.isNone,λh=>⟨Option.isNone_iff_eq_none.mp h,N4⟩⟩
def Sk.opt(a:Sk Expr):Sk (Option Expr):=⟨λy=>some (a.b (oE y)),λsc y=>a.f sc (oE y),λsc y=>y.isSome&&a.ok sc (oE y),λh=>b2 h λt a=>⟨(wb t).trans (az some (Sk.pf _ a).1),(Sk.pf _ a).2⟩⟩
def Sk.m(e:ME):Sk Expr:=⟨λy=>y,λsc y=>dO nmT sc e y=true,λsc y=>dO nmT sc e y,λh=>⟨rfl,h⟩⟩
def Sk.x(e:MS):Sk Stmt:=⟨λy=>y,λsc y=>gI nmT sc e y=true,λsc y=>gI nmT sc e y,λh=>⟨rfl,h⟩⟩
def Sk.mb(e:ME)(a:Sk Expr):Sk Expr:=⟨a.b,λsc y=>dO nmT sc e (a.b y)=true/\a.f sc y,λsc y=>dO nmT sc e y&&a.ok sc y,λh=>b2 h λt a=>⟨(Sk.pf _ a).1,(Sk.pf _ a).1▸t,(Sk.pf _ a).2⟩⟩
def Sk.nS(s:Str):Sk Expr:=⟨λy=>.Name s (kQ y),λI I=>True,λI y=>Nat.beq (de y).t 11&&(de y).x==s,λh=>b2 h λt x=>⟨(mM t).trans (az (Expr.Name · (kQ _)) (am.mp x)),N4⟩⟩
def Sk.gS(s:Str):Sk Expr:=⟨(nS s).b,λsc I=>sc.names.lookup s=some .globalImplicit,λsc y=>(nS s).ok sc y&&sc.names.lookup s==some .globalImplicit,λh=>b2 h λt x=>⟨(Sk.pf _ t).1,am.mp x⟩⟩
def Sk.nm(n:Nm):Sk Expr:=⟨λy=>.Name (nmT n) (kQ y),λI I=>True,λI=>LG n,λh=>⟨yI h,N4⟩⟩
def Sk.nk(k:NameKind)(n:Nm):Sk Expr:=⟨(nm n).b,λsc I=>sc.names.lookup (nmT n)=some k,λsc y=>LG n y&&sc.names.lookup (nmT n)==some k,λh=>b2 h λt x=>⟨yI t,am.mp x⟩⟩
def Sk.tgt(n:Nm):Sk Expr:=nk .local n
def Sk.cel(n:Nm):Sk Expr:=nk .cell n
def Sk.nd(k:NameKind)(n:Nm):Sk Expr:=⟨(nm n).b,λsc I=>sc.names.lookup (nmT n)=some k/\(nmT n==("__debug__":Str))=false,λsc y=>(nk k n).ok sc y&& !(nmT n==("__debug__":Str)),λh=>b2 h λt x=>⟨(Sk.pf _ t).1,(Sk.pf _ t).2,mt x⟩⟩
def Sk.loc(n:Nm):Sk Expr:=nd .local n
def Sk.glb(n:Nm):Sk Expr:=nd .globalImplicit n
def Sk.cst(c:Const):Sk Expr:=⟨λy=>.Constant c (de y).n (kQ y),λI I=>True,λI y=>Nat.beq (de y).t 10&&decide ((de y).k=c),λh=>b2 h λt x=>⟨(mM t).trans (az (Expr.Constant · _ (kQ _)) (aS x)),N4⟩⟩
def Sk.attr(o:Sk Expr)(n:Nm):Sk Expr where
 b y:=.Attribute (o.b (k1 y)) (nmT n) (kQ y)
 f sc y:=o.f sc (k1 y)
 ok sc y:=Nat.beq (de y).t 2&&(de y).x==nmT n&&o.ok sc (k1 y)
 pf h:=b3 h λt x o=>⟨(mM t).trans (Fi (Expr.Attribute · · (kQ _)) (Sk.pf _ o).1 (am.mp x)),(Sk.pf _ o).2⟩
def Sk.call(g:Sk Expr)(as:Sk (List Expr)):Sk Expr where
 b y:=.Call (g.b (k1 y)) (as.b (kL y)) [] (kQ y)
 f sc y:=g.f sc (k1 y)/\as.f sc (kL y)
 ok sc y:=Nat.beq (de y).t 1&&(de y).ks.isEmpty&&g.ok sc (k1 y)&&as.ok sc (kL y)
 pf h:=b4 h λt x g l=>⟨(mM t).trans (Ir (Expr.Call · · · (kQ _)) (Sk.pf _ g).1 (Sk.pf _ l).1 (iq x)),(Sk.pf _ g).2,(Sk.pf _ l).2⟩
def Sk.atS(o:Sk Expr)(a:Str):Sk Expr where
 b y:=.Attribute (o.b (k1 y)) a (kQ y)
 f sc y:=o.f sc (k1 y)
 ok sc y:=Nat.beq (de y).t 2&&(de y).x==a&&o.ok sc (k1 y)
 pf h:=b3 h λt x o=>⟨(mM t).trans (Fi (Expr.Attribute · · (kQ _)) (Sk.pf _ o).1 (am.mp x)),(Sk.pf _ o).2⟩
def Sk.meth(o:Sk Expr)(a:Str)(as:Sk (List Expr)):Sk Expr where
 b:=(call (atS o a) as).b
 f sc y:=((kQ (k1 y)).endLine==(kQ y).line)=true/\o.f sc (k1 (k1 y))/\as.f sc (kL y)
 ok sc y:=(kQ (k1 y)).endLine==(kQ y).line&&(call (atS o a) as).ok sc y
 pf h:=b2 h λt a=>⟨(Sk.pf _ a).1,t,(Sk.pf _ a).2⟩
def Sk.sub(o i:Sk Expr):Sk Expr where
 b y:=.Subscript (o.b (k1 y)) (i.b (k2 y)) (kQ y)
 f sc y:=o.f sc (k1 y)/\i.f sc (k2 y)
 ok sc y:=Nat.beq (de y).t 3&&o.ok sc (k1 y)&&i.ok sc (k2 y)
 pf h:=b3 h λt o i=>⟨(mM t).trans (Fi (Expr.Subscript · · (kQ _)) (Sk.pf _ o).1 (Sk.pf _ i).1),(Sk.pf _ o).2,(Sk.pf _ i).2⟩
def Sk.slc(a b c:Sk (Option Expr)):Sk Expr where
 b y:=.Slice (a.b (de y).a) (b.b (de y).b) (c.b (de y).c) (kQ y)
 f sc y:=a.f sc (de y).a/\b.f sc (de y).b/\c.f sc (de y).c
 ok sc y:=Nat.beq (de y).t 12&&a.ok sc (de y).a&&b.ok sc (de y).b&&c.ok sc (de y).c
 pf h:=b4 h λt a b c=>⟨(mM t).trans (Ir (Expr.Slice · · · (kQ _)) (Sk.pf _ a).1 (Sk.pf _ b).1 (Sk.pf _ c).1),(Sk.pf _ a).2,(Sk.pf _ b).2,(Sk.pf _ c).2⟩
def Sk.bin(l:Sk Expr)(op:Operator)(r:Sk Expr):Sk Expr where
 b y:=.BinOp (l.b (k1 y)) op (r.b (k2 y)) (kQ y)
 f sc y:=l.f sc (k1 y)/\r.f sc (k2 y)
 ok sc y:=Nat.beq (de y).t 4&&decide ((de y).o=op)&&l.ok sc (k1 y)&&r.ok sc (k2 y)
 pf h:=b4 h λt x l r=>⟨(mM t).trans (Ir (Expr.BinOp · · · (kQ _)) (Sk.pf _ l).1 (aS x) (Sk.pf _ r).1),(Sk.pf _ l).2,(Sk.pf _ r).2⟩
def Sk.cmp(l:Sk Expr)(op:CmpOp)(r:Sk Expr):Sk Expr where
 b y:=.Compare (l.b (k1 y)) [op] [r.b (ic (kL y))] (kQ y)
 f sc y:=l.f sc (k1 y)/\r.f sc (ic (kL y))
 ok sc y:=Nat.beq (de y).t 5&&decide ((de y).os=[op])&&Nat.beq (kL y).length 1&&l.ok sc (k1 y)&&r.ok sc (ic (kL y))
 pf h:=b5 h λt x z l r=>⟨(mM t).trans (Ir (Expr.Compare · · · (kQ _)) (Sk.pf _ l).1 (aS x) ((pS _ z).trans (az (·::[]) (Sk.pf _ r).1))),(Sk.pf _ l).2,(Sk.pf _ r).2⟩
def Sk.bor(l:Sk (List Expr)):Sk Expr where
 b y:=.BoolOp .Or (l.b (kL y)) (kQ y)
 f sc y:=l.f sc (kL y)
 ok sc y:=Nat.beq (de y).t 7&&decide ((de y).bo= .Or)&&l.ok sc (kL y)
 pf h:=b3 h λt x l=>⟨(mM t).trans (Fi (Expr.BoolOp · · (kQ _)) (aS x) (Sk.pf _ l).1),(Sk.pf _ l).2⟩
def Sk.tup(l:Sk (List Expr)):Sk Expr:=⟨λy=>.Tuple (l.b (kL y)) (de y).n (kQ y),λsc y=>l.f sc (kL y),λsc y=>Nat.beq (de y).t 8&&l.ok sc (kL y),λh=>b2 h λt l=>⟨(mM t).trans (az (Expr.Tuple · _ (kQ _)) (Sk.pf _ l).1),(Sk.pf _ l).2⟩⟩
def Sk.lst(l:Sk (List Expr)):Sk Expr:=⟨λy=>.List (l.b (kL y)) (kQ y),λsc y=>l.f sc (kL y),λsc y=>Nat.beq (de y).t 9&&l.ok sc (kL y),λh=>b2 h λt l=>⟨(mM t).trans (az (Expr.List · (kQ _)) (Sk.pf _ l).1),(Sk.pf _ l).2⟩⟩
def MB(y:Expr):Bool:=Nat.beq (de y).t 6&&Nat.beq (de y).gs.length 1&&(kG y).ifs.isEmpty&&decide ((kG y).is_async=0)
theorem Dc{y e t i:Expr}(h:MB y)(he:k1 y=e)(ht:(kG y).target=t)(hi:(kG y).iter=i):y= .ListComp e [⟨t,i,[],0⟩] (de y).s (kQ y):=by
 subst he ht hi;exact b4 h λa b c d=>(mM a).trans (az (Expr.ListComp (k1 y) · (de y).s (kQ y)) ((pS _ b:(de y).gs=[kG y]).trans (az (·::[]) (MG c d))))
def Sk.compT(e it:ME)(ns:List Nm):Sk Expr where
 b y:=.ListComp (k1 y) [⟨.Tuple (kL (kG y).target) (de (kG y).target).n (kQ (kG y).target),(kG y).iter,[],0⟩] (de y).s (kQ y)
 f sc y:=dO nmT sc it (kG y).iter=true/\nK (de y).s=true/\ud nmT (de y).s ns (kL (kG y).target)=true/\dO nmT (de y).s e (k1 y)=true
 ok sc y:=MB y&&Nat.beq (de (kG y).target).t 8&&(dO nmT sc it (kG y).iter&&nK (de y).s&&ud nmT (de y).s ns (kL (kG y).target)&&dO nmT (de y).s e (k1 y))
 pf h:=b3 h λg t r=>b4 r λa b c d=>⟨Dc g rfl (mM t) rfl,a,b,c,d⟩
def Sk.comp(e it:Sk Expr)(t:Nm)(fr:List Nm):Sk Expr where
 b y:=.ListComp (e.b (k1 y)) [⟨.Name (nmT t) (kQ (kG y).target),it.b (kG y).iter,[],0⟩] (de y).s (kQ y)
 f sc y:=zI nmT (de y).s fr=true/\(de y).s.names.lookup (nmT t)=some .local/\it.f sc (kG y).iter/\e.f (uW (de y).s) (k1 y)
 ok sc y:=MB y&&LG t (kG y).target&&zI nmT (de y).s fr&&(de y).s.names.lookup (nmT t)==some .local&&(it.ok sc (kG y).iter&&e.ok (uW (de y).s) (k1 y))
 pf h:=b5 h λg n c l r=>b2 r λi e=>⟨Dc g (Sk.pf _ e).1 (yI n) (Sk.pf _ i).1,c,am.mp l,(Sk.pf _ i).2,(Sk.pf _ e).2⟩
def Sk.asg(t e:Sk Expr):Sk Stmt where
 b y:=.Assign [t.b (sG y)] (e.b (sV y)) (sQ y)
 f sc y:=t.f sc (sG y)/\e.f sc (sV y)
 ok sc y:=Nat.beq (gf y).t 1&&Nat.beq (gf y).l.length 1&&t.ok sc (sG y)&&e.ok sc (sV y)
 pf h:=b4 h λt n a e=>⟨(Internal.atS t).trans (Fi (Stmt.Assign · · (sQ _)) ((pS _ n).trans (az (·::[]) (Sk.pf _ a).1)) (Sk.pf _ e).1),(Sk.pf _ a).2,(Sk.pf _ e).2⟩
def Sk.asgP(ts vs:Sk (List Expr)):Sk Stmt where
 b:=(asg (tup ts) (tup vs)).b
 f sc y:=(g0 sc (ts.b (kL (sG y)))).length≠2/\ts.f sc (kL (sG y))/\vs.f sc (kL (sV y))
 ok sc y:= !((g0 sc (ts.b (kL (sG y)))).length==2)&&(asg (tup ts) (tup vs)).ok sc y
 pf h:=b2 h λt a=>⟨(Sk.pf _ a).1,bne_iff_ne.mp t,(Sk.pf _ a).2⟩
def Sk.asgC(n:Nm)(e:Sk Expr):Sk Stmt where
 b:=(asg (nm n) e).b
 f sc y:=sc.names.lookup (nmT n)=some .local/\((kQ (sG y)).line==(kQ (sV y)).line)=true/\((de (sV y)).s.names.any λ(n',k)=>n'==nmT n&&(k== .local||k== .cell))=false/\e.f sc (sV y)
 ok sc y:=(asg (nm n) e).ok sc y&&sc.names.lookup (nmT n)==some .local&&((kQ (sG y)).line==(kQ (sV y)).line)&& !((de (sV y)).s.names.any λ(n',k)=>n'==nmT n&&(k== .local||k== .cell))
 pf h:=b4 h λa l q z=>⟨(Sk.pf _ a).1,am.mp l,q,mt z,(Sk.pf _ a).2.2⟩
def Sk.for_(t it:Sk Expr)(b:Sk (List Stmt)):Sk Stmt where
 b y:=.For (t.b (sT y)) (it.b (sV y)) (b.b (sW y)) [] (sQ y)
 f sc y:=t.f sc (sT y)/\it.f sc (sV y)/\b.f sc (sW y)
 ok sc y:=Nat.beq (gf y).t 2&&(sE y).isEmpty&&t.ok sc (sT y)&&it.ok sc (sV y)&&b.ok sc (sW y)
 pf h:=b5 h λk x t i b=>⟨(Internal.atS k).trans ((az (Stmt.For _ _ _ · _) (iq x)).trans (Ir (Stmt.For · · · [] (sQ _)) (Sk.pf _ t).1 (Sk.pf _ i).1 (Sk.pf _ b).1)),(Sk.pf _ t).2,(Sk.pf _ i).2,(Sk.pf _ b).2⟩
def Sk.if_(t:Sk Expr)(b e:Sk (List Stmt)):Sk Stmt where
 b y:=.If (t.b (sT y)) (b.b (sW y)) (e.b (sE y)) (sQ y)
 f sc y:=t.f sc (sT y)/\b.f sc (sW y)/\e.f sc (sE y)
 ok sc y:=Nat.beq (gf y).t 3&&t.ok sc (sT y)&&b.ok sc (sW y)&&e.ok sc (sE y)
 pf h:=b4 h λk t b e=>⟨(Internal.atS k).trans (Ir (Stmt.If · · · (sQ _)) (Sk.pf _ t).1 (Sk.pf _ b).1 (Sk.pf _ e).1),(Sk.pf _ t).2,(Sk.pf _ b).2,(Sk.pf _ e).2⟩
def Sk.ret(e:Sk Expr):Sk Stmt:=⟨λy=>.Return (some (e.b (sO y))) (sQ y),λsc y=>e.f sc (sO y),λsc y=>Nat.beq (gf y).t 4&&(opt e).ok sc (gf y).o,λh=>b2 h λk e=>⟨(Internal.atS k).trans (az (Stmt.Return · (sQ _)) (Sk.pf _ e).1),(Sk.pf _ e).2⟩⟩
def Sk.exprS(e:Sk Expr):Sk Stmt:=⟨λy=>.Expr (e.b (sT y)) (sQ y),λsc y=>e.f sc (sT y),λsc y=>Nat.beq (gf y).t 5&&e.ok sc (sT y),λh=>b2 h λk e=>⟨(Internal.atS k).trans (az (Stmt.Expr · (sQ _)) (Sk.pf _ e).1),(Sk.pf _ e).2⟩⟩
def Sk.raise(e:Sk Expr):Sk Stmt where
 b y:=.Raise (some (e.b (sO y))) none (sQ y)
 f sc y:=e.f sc (sO y)
 ok sc y:=Nat.beq (gf y).t 11&&(gf y).o2.isNone&&(opt e).ok sc (gf y).o
 pf h:=b3 h λk x e=>⟨(Internal.atS k).trans (Fi (Stmt.Raise · · (sQ _)) (Sk.pf _ e).1 (Option.isNone_iff_eq_none.mp x)),(Sk.pf _ e).2⟩
def Sk.hnd(t w:Nm)(r:Sk (List Stmt)):Sk ExceptHandler where
 b y:=.ExceptHandler (some (.Name (nmT t) (kQ (oE (nY y).t)))) (some (nmT w)) (r.b (nY y).b) (nY y).p
 f sc y:=(sc.names.lookup (nmT t)=some .globalImplicit/\(nmT t==("__debug__":Str))=false)/\r.f sc (nY y).b
 ok sc y:=decide ((nY y).w=some (nmT w))&&(opt (glb t)).ok sc (nY y).t&&r.ok sc (nY y).b
 pf h:=b3 h λw t r=>⟨(Ms _).trans (Ir (ExceptHandler.ExceptHandler · · · (nY _).p) (Sk.pf _ t).1 (aS w) (Sk.pf _ r).1),(Sk.pf _ t).2,(Sk.pf _ r).2⟩
def Sk.try_(b:Sk (List Stmt))(t w:Nm)(r:Sk (List Stmt)):Sk Stmt where
 b y:=.Try (b.b (sW y)) [(hnd t w r).b (JX y)] [] [] (sQ y)
 f sc y:=b.f sc (sW y)/\(hnd t w r).f sc (JX y)
 ok sc y:=Nat.beq (gf y).t 12&&Nat.beq (gf y).hs.length 1&&(gf y).e.isEmpty&&(gf y).f.isEmpty&&(b.ok sc (sW y)&&(hnd t w r).ok sc (JX y))
 pf h:=b5 h λk n e f r=>b2 r λb r=>⟨(Internal.atS k).trans ((Fi (Stmt.Try _ _ · · (sQ _)) (iq e) (iq f)).trans (Fi (Stmt.Try · · [] [] (sQ _)) (Sk.pf _ b).1 ((pS _ n).trans (az (·::[]) (Sk.pf _ r).1)))),(Sk.pf _ b).2,(Sk.pf _ r).2⟩
end
section
set_option backward.match.sparseCases false
/-! the loops -/
def lR(l:List MS)(n:Nat):MS:=match nth l n with
 |some x=>x
 |none=>.oth
def d0:MS->List MS
 | .while _ b=>b
 | .for _ _ b=>b
 |_=>[]
def jt:MS:=lR uq 1
def gg:MS:=lR t9 1
def jY:MS:=lR wa 1
def i7:MS:=lR jB 1
def pH:MS:=lR mw 1
def iK:MS:=lR qQ 1
def lM:MS:=lR oN 1
def fk:MS:=lR mF 0
def fN:MS:=lR nF 0
def eY:MS:=lR Aj 1
def eG:MS:=lR (d0 eY) 3
def pn:MS:=match nth kg 1 with
 |some (.ite _ [x] _)=>x
 |_=>.oth
/-! what the law builds -/
inductive gC where
 |ca | cb | any | len1 | len0 | fail | fence | abort
inductive lT where
 |bare | now | later
inductive dZ where
 |cur
 |mk (m:lT) (b:gC)
def dM:Str:=S [99,104,97,114,115]
def jr:Str:=S [108,101,110]
def kT:Str:=S [97,110,121]
def mG:Str:=S [102,97,105,108]
def iv:Str:=S [102,101,110,99,101]
def eV:Str:=S [97,98,111,114,116]
def nB:Str:=S [110,111,119]
def hZ:Str:=S [108,97,116,101,114]
def fI:Str:=S [99,117,114,115,111,114]
def fO:Str:=S [99,97,116]
def gz:Str:=S [115,117,99,99,101,101,100]
def sK:Str:=S [75]
def js:Str:=S [110,111,110,101]
def jZ:Str:=S [114,111,117,110,100]
def lV:Str:=S [109,101,116]
def sA:Str:=S [97]
def sB:Str:=S [98]
def lU:Str:=S [97,98]
def pW:gC->Str
 | .ca=>dM
 | .cb=>dM
 | .any=>kT
 | .len1=>jr
 | .len0=>jr
 | .fail=>mG
 | .fence=>iv
 | .abort=>eV
def signs:gC->Str
 | .ca=>sA
 | .cb=>sB
 |_=>lU
def JI:gC->Bool
 | .ca=>true
 | .cb=>true
 | .any=>true
 |_=>false
def J8:gC->Bool
 | .len1=>true
 | .len0=>true
 |_=>false
def Lc:gC->Nat
 | .len1=>1
 |_=>0
def DO(b:gC):List V:=match JI b with
 |true=>[.str true (signs b)]
 |false=>match J8 b with
  |true=>[.int true (Lc b:Int)]
  |false=>[]
def lN(b:gC):V:=.tup (.str true (pW b)::DO b)
def db(r:Nat):dZ->V
 | .cur=>.tup [.str true fI,.obj r]
 | .mk .bare b=>lN b
 | .mk .now b=>.tup [.str true nB,lN b,.obj r]
 | .mk .later b=>.tup [.str true hZ,lN b,.obj r]
inductive LE where
 |at (n:Nat)
 |tx (s:Str)
def d4:LE->V
 | .at n=>.tup [.str false sK,.int true (n:Int)]
 | .tx s=>.tup [.str false sK,.str true s]
def nJ(s:Str):V:=.tup [.str false sK,.str true s]
def cut(s:Str)(a b:Nat):Str:=Txt.slice s (some (a:Int)) (some (b:Int))
def gH(s:Str)(a:Nat):Str:=⟨#[s.cps.getD a 0]⟩
def F2(b:gC)(s:Str)(a:Nat):Bool:=Txt.contains (signs b) (gH s a)
def eZ(s:Str)(a:Nat):gC->Option Nat
 | .len1=>if s.length<a+1 then none else some (a+1)
 | .len0=>if s.length<a+0 then none else some (a+0)
 | .fail=>none
 | .fence=>some a
 | .abort=>none
 |b=>if s.length<a+1 then none else match F2 b s a with
  |true=>some (a+1)
  |false=>none
inductive fP where
 |over
 |no
 |ok (a:Nat) (ns:List Str) (f:Bool)
def fB:gC->Bool
 | .fence=>true
 |_=>false
def eh:gC->Bool
 | .abort=>true
 |_=>false
def d3(s:Str):List dZ->Nat->Bool->List Str->List LE->fP×List LE
 |[],a,f,ns,lg=>(.ok a ns f,lg)
 | .cur::ps,a,f,ns,lg=>d3 s ps a f ns (lg++[.at a])
 | .mk m b::ps,a,f,ns,lg=>match eh b with
  |true=>(.over,lg)
  |false=>match eZ s a b with
   |none=>(if f then .over else .no,lg)
   |some e=>match m with
    | .bare=>d3 s ps e (fB b||f) ns lg
    | .now=>d3 s ps e (fB b||f) ns (lg++[.tx (cut s a e)])
    | .later=>d3 s ps e (fB b||f) (ns++[cut s a e]) lg
inductive ii where
 |none (w:Nat)
 |round (rs:List LE)
 |met (b e:Nat) (ns:List Str)
def l8(s:Str)(front behind:List dZ):Nat->Nat->List LE->ii×List LE
 |0,_,lg=>(.none 0,lg)
 |n+1,b,lg=>match d3 s front b false [] lg with
  |(.over,lg)=>(.none 1,lg)
  |(.no,lg)=>l8 s front behind n (b+1) lg
  |(.ok a ns _,lg)=>match d3 s behind a false [] [] with
   |(.no,rs)=>(.round rs,lg)
   |(.over,rs)=>(.none 2,lg++rs)
   |(.ok e ms _,rs)=>(.met b e (ns++ms),lg++rs)
def dJ(s:Str)(an:Bool):Nat:=if an then 1 else s.length+1
def wm(s:Str)(front behind:List dZ)(an:Bool):ii×List LE:=l8 s front behind (dJ s an) 0 []
/-! renaming,by lemmas -/
theorem RV.n{f:Nat->Option Nat}:RV f .none .none:=rfl
theorem RV.b{f:Nat->Option Nat}{b:Bool}:RV f (.bool b) (.bool b):=rfl
theorem RV.i{f:Nat->Option Nat}{y z:Bool}{i:Int}:RV f (.int y i) (.int z i):=⟨z,rfl⟩
theorem RV.s{f:Nat->Option Nat}{y z:Bool}{s:Str}:RV f (.str y s) (.str z s):=⟨z,rfl⟩
theorem RV.t{f:Nat->Option Nat}{vs ws:List V}(h:RVs f vs ws):RV f (.tup vs) (.tup ws):=⟨ws,rfl,h⟩
theorem RV.o{f:Nat->Option Nat}{i j:Nat}(h:f i=some j):RV f (.obj i) (.obj j):=⟨j,h,rfl⟩
theorem RV.v{f:Nat->Option Nat}{x:Value}:RV f (.val x) (.val x):=rfl
theorem RVs.z{f:Nat->Option Nat}:RVs f [] []:=rfl
theorem RVs.k{f:Nat->Option Nat}{v w:V}{vs ws:List V}(h:RV f v w)(k:RVs f vs ws):RVs f (v::vs) (w::ws):=⟨w,ws,rfl,h,k⟩
theorem RFs.z{f:Nat->Option Nat}:RFs f [] []:=rfl
theorem RFs.k{f:Nat->Option Nat}{n:Nm}{v w:V}{vs ws:List (Nm×V)}(h:RV f v w)(k:RFs f vs ws):RFs f ((n,v)::vs) ((n,w)::ws):=⟨w,ws,rfl,h,k⟩
section
variable{xs top:List V}
theorem RO.l{f:Nat->Option Nat}{y z:Bool}{ys:List V}(h:RVs f xs ys):RO f (.list y xs) (.list z ys):=.inl ⟨z,ys,rfl,h⟩
theorem RO.toStk{f:Nat->Option Nat}{y:Bool}(h:RVs f xs top.reverse):RO f (.list y xs) (.stk top []):=.inr (.inl ⟨top,rfl,h⟩)
theorem RO.lstAny{f:Nat->Option Nat}{y:Bool}:RO f (.list y xs) .any:=.inr (.inr rfl)
theorem RO.y{f:Nat->Option Nat}{top':List V}{u':List Value}(h:RVs f top top'):RO f (.stk top u') (.stk top' u'):=.inl ⟨top',rfl,h⟩
theorem RO.stkAny{f:Nat->Option Nat}{u':List Value}:RO f (.stk top u') .any:=.inr (.inl rfl)
theorem RO.unStk{f:Nat->Option Nat}{y:Bool}{ys:List V}(h:RVs f top.reverse ys):RO f (.stk top []) (.list y ys):=.inr (.inr ⟨rfl,y,ys,rfl,h⟩)
theorem RO.x{f:Nat->Option Nat}{C:Addr}{fs gs:List (Nm×V)}(h:RFs f fs gs):RO f (.inst C fs) (.inst C gs):=⟨gs,rfl,h⟩
theorem RO.d{f:Nat->Option Nat}{ks:List Str}:RO f (.dict ks) (.dict ks):=rfl
theorem RO.a{f:Nat->Option Nat}:RO f .any .any:=rfl
theorem ROs.z{f:Nat->Option Nat}:ROs f [] []:=rfl
theorem ROs.k{f:Nat->Option Nat}{o o':O}{os H':List O}(h:RO f o o')(k:ROs f os H'):ROs f (o::os) (o'::H'):=⟨o',H',rfl,h,k⟩
theorem RVs.app'{f:Nat->Option Nat}:∀{a b a' b':List V},RVs f a a'->RVs f b b'->RVs f (a++b) (a'++b')
 |[],_,_,_,e,q=>by cases e;exact q
 |_::_,_,_,_,zh4,q=>by
  obtain⟨w,ws,e,p,r⟩:=zh4;subst e;exact .k p (r.app' q)
theorem RVs.map'{f:Nat->Option Nat}{α:Type}{g h:α->V}:∀(l:List α),(∀x∈l,RV f (g x) (h x))->RVs f (l.map g) (l.map h)
 |[],_=>rfl
 |a::l,k=>.k (k a (.head _)) (RVs.map' l λx m=>k x (.tail _ m))
theorem RV.bare{f:Nat->Option Nat}(b:gC):RV f (lN b) (lN b):=by
 cases b<;>exact .t (by first | exact .k .s (.k .s .z) | exact .k .s (.k .i .z) | exact .k .s .z)
theorem RV.part{f:Nat->Option Nat}{r r':Nat}(h:f r=some r')(p:dZ):RV f (db r p) (db r' p):=by
 cases p with
 |cur=>exact .t (.k .s (.k (.o h) .z))
 |mk m b=>
  cases m with
  |bare=>exact RV.bare b
  |now=>exact .t (.k .s (.k (.bare b) (.k (.o h) .z)))
  |later=>exact .t (.k .s (.k (.bare b) (.k (.o h) .z)))
def FrR(f:Nat->Option Nat)(b:List (Nm×V)):List (Nm×V)->Prop
 |[]=>True
 |(n,v)::r=>(∃w,gX n b=some w/\RV f w v)/\FrR f b r
theorem FrR.at{f:Nat->Option Nat}{b:List (Nm×V)}:∀{b':List (Nm×V)},FrR f b b'->∀n v,gX n b'=some v->∃w,gX n b=some w/\RV f w v
 |[],_,_,_,e=>by cases e
 |(k,x)::r,h,n,v,e=>by
  cases q:Nat.beq k n with
  |true=>
   rw[kS q] at e;cases e;rw[<-aP q];exact h.1
  |false=>
   rw[iU q] at e;exact FrR.at h.2 n v e
theorem FrR.z{f:Nat->Option Nat}{b:List (Nm×V)}:FrR f b []:=trivial
theorem FrR.k{f:Nat->Option Nat}{b r:List (Nm×V)}{n:Nm}{v w:V}(e:gX n b=some w)(h:RV f w v)(k:FrR f b r):FrR f b ((n,v)::r):=⟨⟨w,e,h⟩,k⟩
theorem RO.f{f:Nat->Option Nat}{b b':List (Nm×V)}(h:FrR f b b'):RO f (.frame b) (.frame b'):=⟨b',rfl,h.at⟩
theorem RVs.snoc{f:Nat->Option Nat}{α:Type}{g:α->V}{l:List α}{x:α}{v:V}(hl:RVs f (l.map g) (l.map g))(h:RV f v (g x)):RVs f (l.map g++[v]) ((l++[x]).map g):=by
 rw[bn];exact hl.app' (.k h .z)
theorem RV.le{f:Nat->Option Nat}(x:LE):RV f (d4 x) (d4 x):=by cases x<;>exact .t (by first | exact .k .s (.k .i .z) | exact .k .s (.k .s .z))
theorem RV.nm{f:Nat->Option Nat}(x:Str):RV f (nJ x) (nJ x):=.t (.k .s (.k .s .z))
theorem RVs.parts{f:Nat->Option Nat}{r r':Nat}(h:f r=some r')(l:List dZ):RVs f (l.map (db r)) (l.map (db r')):=.map' l λp I=>.part h p
theorem RVs.les{f:Nat->Option Nat}(l:List LE):RVs f (l.map d4) (l.map d4):=.map' l λp I=>.le p
theorem RVs.nms{f:Nat->Option Nat}(l:List Str):RVs f (l.map nJ) (l.map nJ):=.map' l λp I=>.nm p
theorem RVs.ints{f:Nat->Option Nat}(l:List Int):RVs f (l.map (V.int true)) (l.map (V.int true)):=.map' l λI I=>.i
end
end
section
set_option tactic.hygienic true
structure Bs where
 prog:Program
 w:World
 K:Frag
 h₀:Heap
 mg:Str->Option Value
 mb:Str->Option Value
def bs0:Bs:=⟨default,w0,default,{},λI=>none,λI=>none⟩
def C(b:Bs):Cx:=⟨b.prog,b.w,b.K,b.h₀,b.mg,b.mb,nmT,oh⟩
structure dI(b:Bs):Prop where
 X:(C b).Ok
 F:oG (C b)
abbrev out(l:List Nat)(q:V×St):V×List (Option O)×List Prop:=(q.1,l.map (nth q.2.os ·),q.2.cs)
abbrev CW(l:List Nat)(q:Fl×St):Fl×List (Option O)×List Prop:=(q.1,l.map (nth q.2.os ·),q.2.cs)
abbrev LK(sp:jC)(sl:jz)(r:Nat)(l:List Nat)(n:Nat):Nat->List V->St->Option (V×St):=(ev (Pg (fe l) sp sl r) n).c
abbrev ML(sp:jC)(sl:jz)(r:Nat)(l:List Nat)(n:Nat):List MS->Nat->St->Option (Fl×St):=(ev (Pg (fe l) sp sl r) n).ss
abbrev Nj{α:Type}(v:α)(os:List O)(cs:List Prop):Option (α×List (Option O)×List Prop):=some (v,List.map some os,cs)
abbrev TC(sp:jC)(sl:jz)(r:Nat)(x l:List Nat)(n f:Nat)(vs:List V)(st:St)(v:V)(os:List O)(cs:List Prop):Prop:=Option.map (out x) ((ev (Pg (fe l) sp sl r) n).c f vs st)=some (v,List.map some os,cs)
abbrev TS(sp:jC)(sl:jz)(r:Nat)(x l:List Nat)(n:Nat)(b:List MS)(fi:Nat)(st:St)(v:Fl)(os:List O)(cs:List Prop):Prop:=Option.map (CW x) ((ev (Pg (fe l) sp sl r) n).ss b fi st)=some (v,List.map some os,cs)
abbrev tj(l:List Nat)(q:St):List (Option O)×List Prop:=(l.map (nth q.os ·),q.cs)
theorem sI:∀{l:List Nat} {n:Nat},BP n l=true->n∈l
 |[],_,h=>by cases h
 |a::l,n,h=>by
  have h:(match Nat.beq a n with | true=>true | false=>BP n l)=true:=h;cases e:Nat.beq a n with
  |true=>rw[aP e];exact .head _
  |false=>rw[e] at h;exact .tail _ (sI h)
section
variable{b:Bs} {r n:Nat} {vs:List V} {os H' I':List O} {v:V} {l₀:List Nat} {ch:List Ch} {cs:List Prop}
theorem dD(G:dI b){l:List Nat}(h:l.all (λf=>(oh.fn f).isSome)=true):∀f,fe l f=true->keepIn (C b).K (.ref f)=true:=λf e=>by
 have m:=aT.mp h f (sI e);cases q:oh.fn f with
 |none=>rw[q] at m;cases m
 |some r=>
  obtain⟨ps,body⟩:=r;obtain⟨fd,bd,K⟩:=G.F.fn f ps body q;obtain⟨oc,od,osl,hf⟩:=K.at_;unfold keepIn;dsimp only;rw[hf]
abbrev Ct(b:Bs)(r:Nat):=fJ ((C b).at r)
abbrev Lt(b:Bs)(r:Nat):=Aw ((C b).at r)
theorem fJ.more{c:Cx}{r' f:Nat}(h:fJ (c.at r) f vs os v H')(le:r<=r'):fJ (c.at r') f vs os v H':=
 λA xs s ρ Q E rm R ad vr q=>h A xs s ρ Q E (rm.less le) R ad vr q
def kj:List Nat->Nat->Nat->Bool
 |_,_,0=>true
 |[],_,_+1=>false
 |a::l,i,n+1=>Nat.beq a i&&kj l (i+1) n
theorem wQ:∀{l:List Nat} {i n j:Nat},kj l i n=true->j<n->nth l j=some (i+j)
 |_,_,0,_,_,h=>absurd h (cB _)
 |[],_,_+1,_,h,_=>by cases h
 |a::l,i,n+1,0,h,_=>by
  obtain⟨h1,_⟩:=cW h;rw[aP h1];rfl
 |a::l,i,n+1,j+1,h,hj=>by
  obtain⟨_,h2⟩:=cW h;have:=wQ (l:=l) (j:=j) h2 (Nat.lt_of_succ_lt_succ hj);show nth l j=_;rw[this,show i+1+j=i+(j+1) from by omega]
theorem fj{l:List Nat}(h:kj l 0 n):∀i<n,nth l i=some i:=λi hi=>by rw[wQ h hi,bS]
theorem dF(G:dI b){f:Nat}{v1:V}(l:List Nat)
  (h:((ev (Pg (fe l₀) (Ct b r) (Lt b r) r) n).c f vs ⟨os,ch,[]⟩).map (out l)=some (v1,I'.map some,cs)) (hc:jv cs) (S:ROs (fb l) I' H') (rv:RV (fb l) v1 v)
  (h0:l₀.all (λf=>(oh.fn f).isSome)=true:=by decide) (nd:l.Nodup:=by decide) (keep:kj l 0 os.length:=by rfl):Ct b (n+r) f vs os v H':=
 Gj G.X G.F (dD G h0) l h hc nd (fj keep) S rv
theorem cr(G:dI b){f:Nat}{v1:V}(l:List Nat)
  (h:((ev (Pg (fe l₀) (Ct b 0) (Lt b 0) 0) n).c f vs ⟨os,ch,[]⟩).map (out l)=some (v1,I'.map some,cs)) (hc:jv cs) (S:ROs (fb l) I' H') (rv:RV (fb l) v1 v)
  (h0:l₀.all (λf=>(oh.fn f).isSome)=true:=by decide) (nd:l.Nodup:=by decide) (keep:kj l 0 os.length:=by rfl):Ct b n f vs os v H':=
 dF G (r:=0) l h hc S rv h0 nd keep
theorem eS{k:Nat}{orc':Nat->Bool}{EI:eW}{rz:Prop}{bd:List MS}{fi:Nat}{σ:List O}{NP:Fl->List O->Prop}{XP J:List O->Prop}{fl:Fl}(l:List Nat)(h:Option.map (CW l) ((ev (Pg (fe l₀) (Ct b r) (Lt b r) r) n).ss bd fi ⟨σ,ch,[]⟩)=some (fl,List.map some I',cs))(hc:jv cs)(S:ROs (fb l) I' H')(hJ:J H')
  (hfl:fl= .next\/fl= .cont:=by walk_at "f") (nd:l.Nodup:=by decide) (keep:kj l 0 k:=by rfl):iE (C b) r (fe l₀) orc' EI rz n k bd fi σ NP XP J:=by
 obtain⟨⟨f,st⟩,e1,e2⟩:=aq.mp h;obtain⟨rfl,e3,rfl⟩:f=fl/\l.map (nth st.os ·)=I'.map some/\st.cs=cs:=by simpa only[bc] using e2
 have T:=(dg.sel (c:=C b) (k:=k) e3 nd (fj keep) S).mono (ao _) (J':=J) λσ' e=>by subst e;exact hJ
 refine .inl ⟨ch,f,st,e1,gh hc,?_⟩;rcases hfl with rfl | rfl<;>exact⟨_,T⟩
theorem fT{k:Nat}{orc':Nat->Bool}{EI:eW}{rz:Prop}{bd:List MS}{fi:Nat}{σ:List O}{NP:Fl->List O->Prop}{XP J:List O->Prop}{w:V}(l:List Nat)(h:Option.map (CW l) ((ev (Pg (fe l₀) (Ct b r) (Lt b r) r) n).ss bd fi ⟨σ,ch,[]⟩)=some (.ret v,List.map some I',cs))(hc:jv cs)(S:ROs (fb l) I' H')(rv:RV (fb l) v w)(hN:NP (.ret w) H')
  (nd:l.Nodup:=by decide) (keep:kj l 0 k:=by rfl):iE (C b) r (fe l₀) orc' EI rz n k bd fi σ NP XP J:=by
 obtain⟨⟨f,st⟩,e1,e2⟩:=aq.mp h;obtain⟨rfl,e3,rfl⟩:f= .ret v/\l.map (nth st.os ·)=I'.map some/\st.cs=cs:=by simpa only[bc] using e2
 exact .inl ⟨ch,.ret v,st,e1,gh hc,_,w,rv,(dg.sel (c:=C b) (k:=k) e3 nd (fj keep) S).mono (ao _) λσ' e=>by subst e;exact hN⟩
/-! taking a number -/
def take(lim:Int):List Int×Int->Int×List Int×Int
 |(x::xs,z)=>(x.fmod lim,xs,z)
 |([],z)=>((((z*4093+12289).fmod 1000003).fdiv 8).fmod lim,[],(z*4093+12289).fmod 1000003)
def gM(i:Nat)(z:Int):O:=.list true [.obj i,.int true z]
def fg(xs:List Int):O:=.list true (xs.map (V.int true))
structure ik(p:List Int×Int):Prop where
 z0:0<=p.2
 z1:p.2<1000003
 len:p.1.length<2^20
end
section
variable(sp:jC) (sl:jz) (r:Nat)
theorem Hu(lim z:Int):(LK sp sl r [] 20 643 [.obj 0,.int false lim] ⟨[gM 1 z,.list true []],[.b false],[]⟩).map (out [0,1])=
  some (.int true ((((z*4093+12289).fmod 1000003).fdiv 8).fmod lim),[gM 1 ((z*4093+12289).fmod 1000003),.list true []].map some,
   [lim≠0,(8:Int)≠0/\Builtin.divisionGoesByPylong ((z*4093+12289).fmod 1000003) 8=false,(1000003:Int)≠0,IntMulOk z 4093,decide ((0:Int)<(([]:List V).length:Nat))=false,([]:List V).length<2^20]):=by
 walk_at"k"
theorem F9(lim z x:Int)(xs:List V):(LK sp sl r [] 20 643 [.obj 0,.int false lim] ⟨[gM 1 z,.list true (.int true x::xs)],[.b true],[]⟩).map (out [0,1])=
  some (.int true (x.fmod lim),[gM 1 z,.list true xs].map some,
   [lim≠0,(V.int true x::xs).length<2^20,decide ((0:Int)<((V.int true x::xs).length:Nat))=true,(V.int true x::xs).length<2^20]):=by
 walk_at"k"
end
section
variable{lim:Int}
theorem je{p:List Int×Int}(h:ik p):ik (take lim p).2:=by
 obtain⟨xs,z⟩:=p;cases xs with
 |nil=>exact⟨Int.fmod_nonneg_of_pos _ (),Int.fmod_lt_of_pos _ (),by show 0<2^20;decide⟩
 |cons x xs=>
  have:=h.len;exact⟨h.z0,h.z1,by show xs.length<2^20;simp only[bJ] at this;omega⟩
theorem jD(hl:0<lim)(p:List Int×Int):0<=(take lim p).1/\(take lim p).1<lim:=by
 obtain⟨xs,z⟩:=p;cases xs with
 |nil=>exact⟨Int.fmod_nonneg_of_pos _ hl,Int.fmod_lt_of_pos _ hl⟩
 |cons x xs=>exact⟨Int.fmod_nonneg_of_pos _ hl,Int.fmod_lt_of_pos _ hl⟩
theorem JG{b:Bs}(G:dI b){p:List Int×Int}(h:ik p)(hl:lim≠0):
  Ct b 20 643 [.obj 0,.int false lim] [gM 1 p.2,fg p.1] (.int true (take lim p).1) [gM 1 (take lim p).2.2,fg (take lim p).2.1]:=by
 obtain⟨xs,z⟩:=p;cases xs with
 |nil=>
  refine dF G (r:=0) (n:=20) [0,1] (Hu _ _ _ lim z) ⟨hl,⟨by decide,by unfold Builtin.divisionGoesByPylong;rfl⟩,by decide,IntMulOk.of_right (),rfl,by decide,N4⟩ ?_ RV.i
  walk_at "ro"
 |cons x xs=>
  have hb:(V.int true x::xs.map (V.int true)).length<2^20:=by have:=h.len;simpa using this
  refine dF G (r:=0) (n:=20) [0,1] (F9 _ _ _ lim z x (xs.map (V.int true))) ⟨hl,hb,?_,hb,N4⟩ ?_ RV.i
  .exact av (by simp only[bJ];omega)
  .walk_at "ro"
end
end
def bare0:gC->V
 | .ca=>.tup [.str false dM,.str false sA]
 | .cb=>.tup [.str false dM,.str false sB]
 | .any=>.tup [.str false kT,.str false lU]
 | .len1=>.tup [.str false jr,.int false 1]
 | .len0=>.tup [.str false jr,.int false 0]
 | .fail=>.tup [.str false mG]
 | .fence=>.tup [.str false iv]
 | .abort=>.tup [.str false eV]
def ma:List V:=[bare0 .ca,bare0 .cb,bare0 .len1,bare0 .any,bare0 .fence,bare0 .abort,bare0 .fail,bare0 .len0]
section
variable(sp:jC) (sl:jz) (r:Nat) (f w:Int) (x:V) (R b0 i0 b1 i1 b2 i2:O)
theorem GH:TC sp sl r [0,1,2] [643] 30 650 [.obj 1,.obj 0] ⟨[R,b0,i0],[.k (.int true f) [R,b1,i1,.frame [(ey,.obj 1),(eH,.obj 0)]],.k (.int true w) [R,b2,i2,.frame [(ey,.obj 1),(eH,.obj 0),(ly,.int true f),(kY,.obj 4)],.list true ma],.b true,.v x],[]⟩ (.tup [.str false (S [110,111,119]),x,.obj 0]) [R,b2,i2] [0<=f/\f<2^62/\nth ma (Int.toNat f)=some x,decide (w=1)=true,sp 643 [.obj 1,.int false 4] [R,b1,i1,O.frame [(160,V.obj 1),(145,V.obj 0),(161,V.int true f),(163,V.obj 4)],O.list true [V.tup [V.str false (S [99,104,97,114,115]),V.str false (S [97])],V.tup [V.str false (S [99,104,97,114,115]),V.str false (S [98])],V.tup [V.str false (S [108,101,110]),V.int false 1],V.tup [V.str false (S [97,110,121]),V.str false (S [97,98])],V.tup [V.str false (S [102,101,110,99,101])],V.tup [V.str false (S [97,98,111,114,116])],V.tup [V.str false (S [102,97,105,108])],V.tup [V.str false (S [108,101,110]),V.int false 0]]] (V.int true w) [R,b2,i2,O.frame [(160,V.obj 1),(145,V.obj 0),(161,V.int true f),(163,V.obj 4)],O.list true [V.tup [V.str false dM,V.str false sA],V.tup [V.str false dM,V.str false sB],V.tup [V.str false jr,V.int false 1],V.tup [V.str false kT,V.str false lU],V.tup [V.str false iv],V.tup [V.str false eV],V.tup [V.str false mG],V.tup [V.str false jr,V.int false 0]]],sp 643 [.obj 1,.int false 8] [R,b0,i0,O.frame [(160,V.obj 1),(145,V.obj 0)]] (V.int true f) [R,b1,i1,O.frame [(160,V.obj 1),(145,V.obj 0)]]]:=by
 walk_at"k"
theorem Gc:TC sp sl r [0,1,2] [643] 30 650 [.obj 1,.obj 0] ⟨[R,b0,i0],[.k (.int true f) [R,b1,i1,.frame [(ey,.obj 1),(eH,.obj 0)]],.k (.int true w) [R,b2,i2,.frame [(ey,.obj 1),(eH,.obj 0),(ly,.int true f),(kY,.obj 4)],.list true ma],.b false,.b true,.v x],[]⟩ (.tup [.str false (S [108,97,116,101,114]),x,.obj 0]) [R,b2,i2] [0<=f/\f<2^62/\nth ma (Int.toNat f)=some x,decide (w=2)=true,decide (w=1)=false,sp 643 [.obj 1,.int false 4] [R,b1,i1,O.frame [(160,V.obj 1),(145,V.obj 0),(161,V.int true f),(163,V.obj 4)],O.list true [V.tup [V.str false (S [99,104,97,114,115]),V.str false (S [97])],V.tup [V.str false (S [99,104,97,114,115]),V.str false (S [98])],V.tup [V.str false (S [108,101,110]),V.int false 1],V.tup [V.str false (S [97,110,121]),V.str false (S [97,98])],V.tup [V.str false (S [102,101,110,99,101])],V.tup [V.str false (S [97,98,111,114,116])],V.tup [V.str false (S [102,97,105,108])],V.tup [V.str false (S [108,101,110]),V.int false 0]]] (V.int true w) [R,b2,i2,O.frame [(160,V.obj 1),(145,V.obj 0),(161,V.int true f),(163,V.obj 4)],O.list true [V.tup [V.str false dM,V.str false sA],V.tup [V.str false dM,V.str false sB],V.tup [V.str false jr,V.int false 1],V.tup [V.str false kT,V.str false lU],V.tup [V.str false iv],V.tup [V.str false eV],V.tup [V.str false mG],V.tup [V.str false jr,V.int false 0]]],sp 643 [.obj 1,.int false 8] [R,b0,i0,O.frame [(160,V.obj 1),(145,V.obj 0)]] (V.int true f) [R,b1,i1,O.frame [(160,V.obj 1),(145,V.obj 0)]]]:=by
 walk_at"k"
theorem Fv(sp:jC)(sl:jz)(r:Nat)(f w:Int)(x:V)(R b0 i0 b1 i1 b2 i2:O):TC sp sl r [0,1,2] [643] 30 650 [.obj 1,.obj 0] ⟨[R,b0,i0],[.k (.int true f) [R,b1,i1,.frame [(ey,.obj 1),(eH,.obj 0)]],.k (.int true w) [R,b2,i2,.frame [(ey,.obj 1),(eH,.obj 0),(ly,.int true f),(kY,.obj 4)],.list true ma],.b false,.b false,.b true],[]⟩ (.tup [.str false (S [99,117,114,115,111,114]),.obj 0]) [R,b2,i2] [decide (w=3)=true,decide (w=2)=false,decide (w=1)=false,sp 643 [.obj 1,.int false 4] [R,b1,i1,O.frame [(160,V.obj 1),(145,V.obj 0),(161,V.int true f),(163,V.obj 4)],O.list true [V.tup [V.str false (S [99,104,97,114,115]),V.str false (S [97])],V.tup [V.str false (S [99,104,97,114,115]),V.str false (S [98])],V.tup [V.str false (S [108,101,110]),V.int false 1],V.tup [V.str false (S [97,110,121]),V.str false (S [97,98])],V.tup [V.str false (S [102,101,110,99,101])],V.tup [V.str false (S [97,98,111,114,116])],V.tup [V.str false (S [102,97,105,108])],V.tup [V.str false (S [108,101,110]),V.int false 0]]] (V.int true w) [R,b2,i2,O.frame [(160,V.obj 1),(145,V.obj 0),(161,V.int true f),(163,V.obj 4)],O.list true [V.tup [V.str false dM,V.str false sA],V.tup [V.str false dM,V.str false sB],V.tup [V.str false jr,V.int false 1],V.tup [V.str false kT,V.str false lU],V.tup [V.str false iv],V.tup [V.str false eV],V.tup [V.str false mG],V.tup [V.str false jr,V.int false 0]]],sp 643 [.obj 1,.int false 8] [R,b0,i0,O.frame [(160,V.obj 1),(145,V.obj 0)]] (V.int true f) [R,b1,i1,O.frame [(160,V.obj 1),(145,V.obj 0)]]]:=by
 walk_at"k"
theorem GF:TC sp sl r [0,1,2] [643] 30 650 [.obj 1,.obj 0] ⟨[R,b0,i0],[.k (.int true f) [R,b1,i1,.frame [(ey,.obj 1),(eH,.obj 0)]],.k (.int true w) [R,b2,i2,.frame [(ey,.obj 1),(eH,.obj 0),(ly,.int true f),(kY,.obj 4)],.list true ma],.b false,.b false,.b false,.v x],[]⟩ x [R,b2,i2] [0<=f/\f<2^62/\nth ma (Int.toNat f)=some x,decide (w=3)=false,decide (w=2)=false,decide (w=1)=false,sp 643 [.obj 1,.int false 4] [R,b1,i1,O.frame [(160,V.obj 1),(145,V.obj 0),(161,V.int true f),(163,V.obj 4)],O.list true [V.tup [V.str false (S [99,104,97,114,115]),V.str false (S [97])],V.tup [V.str false (S [99,104,97,114,115]),V.str false (S [98])],V.tup [V.str false (S [108,101,110]),V.int false 1],V.tup [V.str false (S [97,110,121]),V.str false (S [97,98])],V.tup [V.str false (S [102,101,110,99,101])],V.tup [V.str false (S [97,98,111,114,116])],V.tup [V.str false (S [102,97,105,108])],V.tup [V.str false (S [108,101,110]),V.int false 0]]] (V.int true w) [R,b2,i2,O.frame [(160,V.obj 1),(145,V.obj 0),(161,V.int true f),(163,V.obj 4)],O.list true [V.tup [V.str false dM,V.str false sA],V.tup [V.str false dM,V.str false sB],V.tup [V.str false jr,V.int false 1],V.tup [V.str false kT,V.str false lU],V.tup [V.str false iv],V.tup [V.str false eV],V.tup [V.str false mG],V.tup [V.str false jr,V.int false 0]]],sp 643 [.obj 1,.int false 8] [R,b0,i0,O.frame [(160,V.obj 1),(145,V.obj 0)]] (V.int true f) [R,b1,i1,O.frame [(160,V.obj 1),(145,V.obj 0)]]]:=by
 walk_at"k"
end
theorem At(a:Nat)(l:List Nat):fb (a::l) a=some 0:=by
 show(match Nat.beq a a with | true=>some 0 | false=>match fb l a with | some j=>some (j+1) | none=>none)=_;rw[Nat.beq_refl]
theorem yu{b:Bs}(G:dI b){lim:Int}{p:List Int×Int}(h:ik p)(hl:lim≠0){os:List O}{i j:Nat}(hi:nth os i=some (gM j p.2))(hj:nth os j=some (fg p.1))(ne:i≠j):
  Ct b 20 643 [.obj i,.int false lim] os (.int true (take lim p).1) (fG os [i,j] [gM j (take lim p).2.2,fg (take lim p).2.1]++[]):=by
 have e0:fb [i,j] i=some 0:=At i [j];have e1:fb [i,j] j=some 1:=by
  have:Nat.beq i j=false:=by
   cases q:Nat.beq i j with
   |false=>rfl
   |true=>exact absurd (aP q) ne
  show(match Nat.beq i j with | true=>some 0 | false=>match fb [j] j with | some k=>some (k+1) | none=>none)=_;rw[this,At]
 refine fJ.frame (l:=[i,j]) (I':=[gM j p.2,fg p.1]) (news:=[gM j (take lim p).2.2,fg (take lim p).2.1]) rfl (JG G h hl) (by simp [hi,hj]) (by simp [ne]) ?_ (.k (.o e0) (.k .i .z)) ?_ .i
 .exact .k (.l (.k (.o e1) (.k .i .z))) (.k (.l (.ints _)) .z)
 .exact .k (.l (.k (.o rfl) (.k .i .z))) (.k (.l (.ints _)) .z)
theorem RV.bare0{f:Nat->Option Nat}(b:gC):RV f (bare0 b) (lN b):=by
 cases b<;>exact .t (by first | exact .k .s (.k .s .z) | exact .k .s (.k .i .z) | exact .k .s .z)
def ql(f:Int):gC:=match f.toNat with
 |0=>.ca
 |1=>.cb
 |2=>.len1
 |3=>.any
 |4=>.fence
 |5=>.abort
 |6=>.fail
 |_=>.len0
theorem Hy{f:Int}(h0:0<=f)(h1:f<8):nth ma f.toNat=some (bare0 (ql f)):=by
 obtain⟨n,rfl⟩:=Int.eq_ofNat_of_zero_le h0;exact up8 (P:=λn:Nat=>nth ma (n:Int).toNat=some (bare0 (ql n))) (bX.mp h1) rfl rfl rfl rfl rfl rfl rfl rfl
def gj(p:List Int×Int):dZ×List Int×Int:=
 (if(take 4 (take 8 p).2).1=1 then .mk .now (ql (take 8 p).1) else if(take 4 (take 8 p).2).1=2 then .mk .later (ql (take 8 p).1) else if(take 4 (take 8 p).2).1=3 then .cur else .mk .bare (ql (take 8 p).1),(take 4 (take 8 p).2).2)
theorem Cg{p:List Int×Int}(h:ik p):ik (gj p).2:=je (je h)
nonrec theorem IJ{b:Bs}{p:List Int×Int}(G:dI b)(h:ik p)(R:O)(hR:RO (fb [0,1,2]) R R):Ct b 50 650 [.obj 1,.obj 0] [R,gM 2 p.2,fg p.1] (db 0 (gj p).1) [R,gM 2 (gj p).2.2,fg (gj p).2.1]:=by
 have ha:=jD (lim:=8) () p;have h1:=je (lim:=8) h;have q1:=yu (lim:=8) G h () (os:=[R,gM 2 p.2,fg p.1,.frame [(ey,.obj 1),(eH,.obj 0)]]) (i:=1) (j:=2) rfl rfl ();have q2:=yu (lim:=4) G h1 () (os:=[R,gM 2 (take 8 p).2.2,fg (take 8 p).2.1,.frame [(ey,.obj 1),(eH,.obj 0),(ly,.int true (take 8 p).1),(kY,.obj 4)],.list true ma]) (i:=1) (j:=2) rfl rfl ();have m:=Hy ha.1 ha.2;have m':0<=(take 8 p).1/\(take 8 p).1<2^62/\nth ma (take 8 p).1.toNat=some (bare0 (ql (take 8 p).1)):=⟨ha.1,Int.lt_trans ha.2 (),m⟩
 have S:∀(z:Int) (xs:List Int),ROs (fb [0,1,2]) [R,gM 2 z,fg xs] [R,gM 2 z,fg xs]:=λz xs=>.k hR (.k (.l (.k (.o rfl) (.k .i .z))) (.k (.l (.ints _)) .z));unfold gj
 by_cases c1:(take 4 (take 8 p).2).1=1
 .rw[if_pos c1]
  exact dF G (r:=20) (n:=30) (l₀:=[643]) [0,1,2] (GH ..) ⟨m',av c1,q2,q1,N4⟩ (S _ _) (.t (.k .s (.k (.bare0 _) (.k (.o rfl) .z))))
 .rw[if_neg c1]
  by_cases c2:(take 4 (take 8 p).2).1=2
  .rw[if_pos c2]
   exact dF G (r:=20) (n:=30) (l₀:=[643]) [0,1,2] (Gc ..) ⟨m',av c2,ag c1,q2,q1,N4⟩ (S _ _) (.t (.k .s (.k (.bare0 _) (.k (.o rfl) .z))))
  .rw[if_neg c2]
   by_cases c3:(take 4 (take 8 p).2).1=3
   .rw[if_pos c3]
    exact dF G (r:=20) (n:=30) (l₀:=[643]) [0,1,2] (Fv _ _ _ (take 8 p).1 (take 4 (take 8 p).2).1 .none R _ _ _ _ _ _) ⟨av c3,ag c2,ag c1,q2,q1,N4⟩ (S _ _) (.t (.k .s (.k (.o rfl) .z)))
   .rw[if_neg c3]
    exact dF G (r:=20) (n:=30) (l₀:=[643]) [0,1,2] (GF ..) ⟨m',ag c3,ag c2,ag c1,q2,q1,N4⟩ (S _ _) (.bare0 _)
section
set_option backward.match.sparseCases false
def oZ(s:Str)(a:Int)(f:Bool):List (Nm×V):=[(io,.obj 1),(cS,.str true s),(dW,.int true a),(eP,.obj 2),(gl,.bool f),(k9,.obj 4)]
def tB(s:Str)(a:Int)(f:Bool)(v:V):List (Nm×V):=[(io,.obj 1),(cS,.str true s),(dW,.int true a),(eP,.obj 2),(gl,.bool f),(k9,.obj 4),(dU,v)]
def lJ(s:Str)(a:Int)(f:Bool)(v:V)(w:V):List (Nm×V):=[(io,.obj 1),(cS,.str true s),(dW,.int true a),(eP,.obj 2),(gl,.bool f),(k9,.obj 4),(dU,v),(gK,.int true a),(nL,w)]
def iD(R P:O)(lg:List V)(fr:List (Nm×V))(ns:List V):List O:=[R,P,.list true lg,.frame fr,.list true ns]
section
variable(sp:jC) (sl:jz) (r:Nat) (kd:Str) (R P:O) (lg ns:List V) (s sg:Str) (a:Int) (tl:List V) (n:Int) (f:Bool) (w:V) (L':List V)
theorem yN:TC sp sl r [] [] 20 657 [.tup (.str true kd::tl),.str true s,.int true a] ⟨[],[.b true],[]⟩ .none [] [decide (kd=S [102,97,105,108])=true]:=by
 walk_at"k"
theorem zF:TC sp sl r [] [] 20 657 [.tup (.str true kd::[.str true sg]),.str true s,.int true a] ⟨[],[.b false,.b false,.b true],[]⟩ .none [] [decide (↑(Str.length s)<a+1)=true,Str.length s<2^20,decide (kd=S [108,101,110])=false,decide (kd=S [102,97,105,108])=false]:=by
 walk_at"k"
theorem EC:TC sp sl r [] [] 20 657 [.tup (.str true kd::[.str true sg]),.str true s,.int true a] ⟨[],[.b false,.b false,.b false,.b true,.b true],[]⟩ .none [] [(!Txt.contains sg {cps:=#[Array.getD (Str.cps s) (Int.toNat a) 0]})=true,0<=a/\a<↑(Str.length s)/\a<2^62,decide (kd≠S [108,101,110])=true,decide (↑(Str.length s)<a+1)=false,Str.length s<2^20,decide (kd=S [108,101,110])=false,decide (kd=S [102,97,105,108])=false]:=by
 walk_at"k"
theorem BL:TC sp sl r [] [] 20 657 [.tup (.str true kd::[.str true sg]),.str true s,.int true a] ⟨[],[.b false,.b false,.b false,.b true,.b false],[]⟩ (.int true (a+1)) [] [(!Txt.contains sg {cps:=#[Array.getD (Str.cps s) (Int.toNat a) 0]})=false,0<=a/\a<↑(Str.length s)/\a<2^62,decide (kd≠S [108,101,110])=true,decide (↑(Str.length s)<a+1)=false,Str.length s<2^20,decide (kd=S [108,101,110])=false,decide (kd=S [102,97,105,108])=false]:=by
 walk_at"k"
theorem sF:TC sp sl r [] [] 20 657 [.tup (.str true kd::[.int true n]),.str true s,.int true a] ⟨[],[.b false,.b true,.b true],[]⟩ .none [] [decide (↑(Str.length s)<a+n)=true,Str.length s<2^20,decide (kd=S [108,101,110])=true,decide (kd=S [102,97,105,108])=false]:=by
 walk_at"k"
theorem vU:TC sp sl r [] [] 20 657 [.tup (.str true kd::[.int true n]),.str true s,.int true a] ⟨[],[.b false,.b true,.b false,.b false],[]⟩ (.int true (a+n)) [] [decide (kd≠S [108,101,110])=false,decide (↑(Str.length s)<a+n)=false,Str.length s<2^20,decide (kd=S [108,101,110])=true,decide (kd=S [102,97,105,108])=false]:=by
 walk_at"k"
theorem BU:TS sp sl r [0,1,2,3,4] [657] 30 (d0 jt) 3 ⟨iD R P lg (tB s a f (.tup [.str true fI,.obj 0])) ns,[.b false,.b false,.b false,.b true,.b false,.b false],[]⟩ Fl.next [R,P,O.list true (lg++[V.tup [V.str false (S [75]),V.int true a]]),O.frame [(8,V.obj 1),(75,V.str true s),(31,V.int true a),(143,V.obj 2),(165,V.bool f),(164,V.obj 4),(5,V.tup [V.str true fI,V.obj 0]),(76,V.int true a),(166,V.tup [V.str true fI,V.obj 0])],O.list true ns] [decide (fI=S [108,97,116,101,114])=false,decide (fI=S [110,111,119])=false,List.length lg<2^20,decide (fI=S [99,117,114,115,111,114])=true,decide (fI=S [102,101,110,99,101])=false,decide (fI=S [97,98,111,114,116])=false,gG fI [S [110,111,119],S [108,97,116,101,114]]=false]:=by
 walk_at"k"
theorem Eu:TC sp sl r [0,1,2] [] 20 664 [.obj 1,.str true s,.int true a,.obj 2] ⟨[R,P,.list true lg],[.l (.ret w) [R,P,.list true L',.frame [],.any]],[]⟩ w [R,P,.list true L'] [sl jt 3 [R,P,O.list true lg,O.frame [(8,V.obj 1),(75,V.str true s),(31,V.int true a),(143,V.obj 2),(165,V.bool false),(164,V.obj 4)],O.list true []] (Fl.ret w) [R,P,O.list true L',O.frame [],O.any]]:=by
 walk_at"k"
theorem Io(sp:jC)(sl:jz)(r:Nat)(R P:O)(lg L' ns:List V)(s:Str)(a e:Int)(f:Bool):TC sp sl r [0,1,2,4] [] 20 664 [.obj 1,.str true s,.int true a,.obj 2] ⟨[R,P,.list true lg],[.l .next (iD R P L' (oZ s e f) ns)],[]⟩ (.tup [.int true e,.obj 4,.bool f]) [R,P,.list true L',.list true ns] [sl jt 3 [R,P,O.list true lg,O.frame [(8,V.obj 1),(75,V.str true s),(31,V.int true a),(143,V.obj 2),(165,V.bool false),(164,V.obj 4)],O.list true []] Fl.next [R,P,O.list true L',O.frame [(8,V.obj 1),(75,V.str true s),(31,V.int true e),(143,V.obj 2),(165,V.bool f),(164,V.obj 4)],O.list true ns]]:=by
 walk_at"k"
end
def FZ:Option Nat->V
 |none=>.none
 |some e=>.int true (e:Int)
section
variable{b:Bs} {s:Str} {a:Nat}
theorem nM(G:dI b){kd sg:Str}(hs:s.length<1000)(ha:a<=s.length)(h1:kd≠mG)(h2:kd≠jr):
  Ct b 20 657 [.tup [.str true kd,.str true sg],.str true s,.int true (a:Int)] [] (FZ (if s.length<a+1 then none else match Txt.contains sg (gH s a) with | true=>some (a+1) | false=>none)) []:=by
 by_cases c1:s.length<a+1
 .rw[if_pos c1]
  exact cr G _ (zF ..) ⟨av (by omega),by omega,ag h2,ag h1,N4⟩ .z .n
 .rw[if_neg c1]
  cases c2:Txt.contains sg (gH s a) with
  |false=>exact cr G _ (EC ..) ⟨by show(!Txt.contains sg (gH s a))=true;rw[c2];rfl,⟨by omega,by omega,by omega⟩,av h2,ag (by omega),by omega,ag h2,ag h1,N4⟩ .z .n
  |true=>exact cr G _ (BL ..) ⟨by show(!Txt.contains sg (gH s a))=false;rw[c2];rfl,⟨by omega,by omega,by omega⟩,av h2,ag (by omega),by omega,ag h2,ag h1,N4⟩ .z .i
theorem uy(G:dI b){n:Nat}(hs:s.length<1000):
  Ct b 20 657 [.tup [.str true jr,.int true (n:Int)],.str true s,.int true (a:Int)] [] (FZ (if s.length<a+n then none else some (a+n))) []:=by
 by_cases c1:s.length<a+n
 .rw[if_pos c1]
  exact cr G _ (sF ..) ⟨av (by omega),by omega,by decide,by decide,N4⟩ .z .n
 .rw[if_neg c1]
  exact cr G _ (vU ..) ⟨by decide,ag (by omega),by omega,by decide,by decide,N4⟩ .z .i
theorem KT(G:dI b)(hs:s.length<1000)(ha:a<=s.length)(bb:gC)(h1:fB bb=false)(h2:eh bb=false):
  Ct b 20 657 [lN bb,.str true s,.int true (a:Int)] [] (FZ (eZ s a bb)) []:=by
 cases bb with
 |ca=>exact nM G hs ha () ()
 |cb=>exact nM G hs ha () ()
 |any=>exact nM G hs ha () ()
 |len1=>exact uy G hs
 |len0=>exact uy G hs
 |fail=>exact cr G _ (yN ..) ⟨by decide,N4⟩ .z .n
 |fence=>cases h1
 |abort=>cases h2
theorem Lg(G:dI b)(hs:s.length<1000)(ha:a<=s.length)(bb:gC)(h1:fB bb=false)(h2:eh bb=false)(os:List O):
  Ct b 20 657 [lN bb,.str true s,.int true (a:Int)] os (FZ (eZ s a bb)) (fG os [] []++[]):=
 fJ.frame (l:=[]) (I':=[]) (news:=[]) rfl (KT G hs ha bb h1 h2) rfl .nil .z (.k (.bare _) (.k .s (.k .i .z))) .z (by cases eZ s a bb<;>first | exact .n | exact .i)
def mq:Str:=S [111,118,101,114]
def AY(R P:O)(s:Str)(x:fP×List LE)(fl:Fl)(σ:List O):Prop:=match x with
 |(.over,lg)=>fl= .ret (.str false mq)/\σ=[R,P,.list true (lg.map d4),.frame [],.any]
 |(.no,lg)=>fl= .ret .none/\σ=[R,P,.list true (lg.map d4),.frame [],.any]
 |(.ok a ns f,lg)=>fl= .next/\σ=iD R P (lg.map d4) (oZ s (a:Int) f) (ns.map nJ)
theorem tD{e:Nat}{b:gC}(ha:a<=s.length)(h:eZ s a b=some e):e<=s.length:=by
 have go:∀{n:Nat} {x:Option Nat},(if s.length<n then none else x)=some e->(x=some e->e=n)->e<=s.length:=λ{n x} h k=>by
  by_cases c:s.length<n
  .rw[if_pos c] at h
   cases h
  .rw[if_neg c] at h
   exact k h▸bA c
 have sg:∀{y:Bool},(match y with | true=>some (a+1) | false=>none)=some e->e=a+1:=λ{y} k=>by
  cases y with
  |true=>exact(ac k).symm
  |false=>cases k
 cases b with
 |len1=>exact go h λk=>(ac k).symm
 |len0=>exact go h λk=>(ac k).symm
 |fail=>cases h
 |fence=>exact ac h▸ha
 |abort=>cases h
 |_=>exact go h sg
def Dj(R P:O)(s:Str)(ps:List dZ)(x:fP×List LE)(n₀:Nat)(j:Nat)(σ:List O):Prop:=
 ∃(a:Nat) (f:Bool) (ns:List Str) (lg:List LE),σ=iD R P (lg.map d4) (oZ s (a:Int) f) (ns.map nJ)/\d3 s (ps.drop j) a f ns lg=x/\a<=s.length/\ns.length<=j/\lg.length<=n₀+j
theorem uZ{α:Type}:∀{l:List α} {j:Nat} {x:α},nth l j=some x->l.drop j=x::l.drop (j+1)
 |[],_,_,h=>by cases h
 |a::l,0,x,h=>by cases h;rfl
 |a::l,j+1,x,h=>uZ (l:=l) h
theorem i8(s:Str)(m:lT)(b:gC)(ps:List dZ)(a:Nat)(f:Bool)(ns:List Str)(lg:List LE):d3 s (.mk m b::ps) a f ns lg=match eh b with
  |true=>(.over,lg)
  |false=>match eZ s a b with
   |none=>(if f then .over else .no,lg)
   |some e=>match m with
    | .bare=>d3 s ps e (fB b||f) ns lg
    | .now=>d3 s ps e (fB b||f) ns (lg++[.tx (cut s a e)])
    | .later=>d3 s ps e (fB b||f) (ns++[cut s a e]) lg:=rfl
theorem xG{n:Nat}(h:n<1000):n<=sizeLine:=by have:=dv;omega
def LY:lT->Bool
 | .bare=>false
 |_=>true
def E2(m:lT)(w:V):V:=match m with
 | .bare=>w
 | .now=>.tup [.str true nB,w,.obj 0]
 | .later=>.tup [.str true hZ,w,.obj 0]
def M3(m:lT)(kd:Str):Str:=match m with
 | .bare=>kd
 | .now=>nB
 | .later=>hZ
def LT(m:lT)(lg:List V)(s:Str)(a e:Int):List V:=match m with
 | .now=>lg++[.tup [.str false (S [75]),.str true (Txt.slice s (some a) (some e))]]
 |_=>lg
def Mp(m:lT)(ns:List V)(s:Str)(a e:Int):List V:=match m with
 | .later=>ns++[.tup [.str false (S [75]),.str true (Txt.slice s (some a) (some e))]]
 |_=>ns
def JS(m:lT)(lg:List LE)(t:Str):List LE:=match m with
 | .now=>lg++[.tx t]
 |_=>lg
def JZ(m:lT)(ns:List Str)(t:Str):List Str:=match m with
 | .later=>ns++[t]
 |_=>ns
def M0:lT->List Ch
 | .bare=>[.b false,.b false]
 | .now=>[.b true,.b false]
 | .later=>[.b false,.b true]
def cM(m:lT)(lg ns:List V)(s kd:Str):List Prop:=match m with
 | .bare=>[decide (kd=hZ)=false,decide (kd=nB)=false]
 | .now=>[decide (nB=hZ)=false,lg.length<2^20,s.length<=sizeLine,decide (nB=nB)=true]
 | .later=>[ns.length<2^20,s.length<=sizeLine,decide (hZ=hZ)=true,decide (hZ=nB)=false]
def MY(f:Bool):V:=match f with
 |true=>.str false mq
 |false=>.none
def IS(s:Str)(a:Int)(f:Bool)(v:V)(w:V):List (Nm×V):=[(io,.obj 1),(cS,.str true s),(dW,.int true a),(eP,.obj 2),(gl,.bool f),(k9,.obj 4),(dU,v),(gK,.none),(nL,w)]
end
section
variable(sp:jC) (sl:jz) (r:Nat) (R P:O) (lg ns:List V) (s:Str) (a:Int) (f:Bool) (m:lT) (kd:Str) (tl:List V)
abbrev LC(ch:List Ch)(fl:Fl)(G':List V)(fr:List (Nm×V))(N0:List V)(cs:List Prop):Prop:=
 Option.map (CW [0,1,2,3,4]) (ML sp sl r [657] 30 (d0 jt) 3 ⟨iD R P lg (tB s a f (E2 m (.tup (.str true kd::tl)))) ns,.b (LY m)::ch,[]⟩)=some (fl,List.map some (iD R P G' fr N0),cs++[gG (M3 m kd) [nB,hZ]=LY m])
abbrev Kd(w:V):Prop:=sp 657 [.tup (.str true kd::tl),.str true s,.int true a] (iD R P lg (lJ s a f (E2 m (.tup (.str true kd::tl))) (.tup (.str true kd::tl))) ns) w (iD R P lg (lJ s a f (E2 m (.tup (.str true kd::tl))) (.tup (.str true kd::tl))) ns)
theorem wY:LC sp sl r R P lg ns s a f m kd tl [.b true] (.ret (.str false mq)) lg (lJ s a f (E2 m (.tup (.str true kd::tl))) (.tup (.str true kd::tl))) ns [decide (kd=eV)=true]:=by cases m<;>walk_at"k"
theorem wv:LC sp sl r R P lg ns s a f m kd tl (.b false:: .b true::M0 m) .next (LT m lg s a a) (lJ s a true (E2 m (.tup (.str true kd::tl))) (.tup (.str true kd::tl))) (Mp m ns s a a) (cM m lg ns s kd++[decide (kd=iv)=true,decide (kd=eV)=false]):=by cases m<;>walk_at"k"
theorem ye:LC sp sl r R P lg ns s a f m kd tl [.b false,.b false,.b false,.k .none (iD R P lg (lJ s a f (E2 m (.tup (.str true kd::tl))) (.tup (.str true kd::tl))) ns)] (.ret (MY f)) lg (IS s a f (E2 m (.tup (.str true kd::tl))) (.tup (.str true kd::tl))) ns [Kd sp R P lg ns s a f m kd tl .none,decide (kd=fI)=false,decide (kd=iv)=false,decide (kd=eV)=false]:=by cases m<;>cases f<;>walk_at"k"
theorem yK(e:Int):LC sp sl r R P lg ns s a f m kd tl (.b false:: .b false:: .b false:: .k (.int true e) (iD R P lg (lJ s a f (E2 m (.tup (.str true kd::tl))) (.tup (.str true kd::tl))) ns)::M0 m) .next (LT m lg s a e) (lJ s e f (E2 m (.tup (.str true kd::tl))) (.tup (.str true kd::tl))) (Mp m ns s a e) (cM m lg ns s kd++[Kd sp R P lg ns s a f m kd tl (.int true e),decide (kd=fI)=false,decide (kd=iv)=false,decide (kd=eV)=false]):=by cases m<;>walk_at"k"
end
theorem kJ:∀{l r:List Prop},jv l->jv r->jv (l++r)
 |[],_,_,k=>k
 |_::_,_,h,k=>⟨h.1,kJ h.2 k⟩
theorem mB(s:Str)(m:lT)(b:gC)(ps:List dZ)(a:Nat)(f:Bool)(ns:List Str)(lg:List LE){e:Nat}(h:eh b=false)(k:eZ s a b=some e):d3 s (.mk m b::ps) a f ns lg=d3 s ps e (fB b||f) (JZ m ns (cut s a e)) (JS m lg (cut s a e)):=by
 rw[i8,h,k];cases m<;>rfl
theorem vW(s:Str)(m:lT)(b:gC)(ps:List dZ)(a:Nat)(f:Bool)(ns:List Str)(lg:List LE)(h:eh b):d3 s (.mk m b::ps) a f ns lg=(.over,lg):=by
 rw[i8,h]
theorem u6(s:Str)(m:lT)(b:gC)(ps:List dZ)(a:Nat)(f:Bool)(ns:List Str)(lg:List LE)(h:eh b=false)(k:eZ s a b=none):d3 s (.mk m b::ps) a f ns lg=(if f then .over else .no,lg):=by
 rw[i8,h,k]
theorem oF{s:Str}{P:List dZ->Nat->Bool->List Str->List LE->fP×List LE->Prop}(h0:∀a f ns lg,P [] a f ns lg (.ok a ns f,lg))(h1:∀ps a f ns lg x,P ps a f ns (lg++[.at a]) x->P (.cur::ps) a f ns lg x)
  (h2:∀m b ps a f ns lg,eh b=true->P (.mk m b::ps) a f ns lg (.over,lg)) (h3:∀m b ps a f ns lg,eh b=false->eZ s a b=none->P (.mk m b::ps) a f ns lg (if f then .over else .no,lg))
  (h4:∀m b ps a f ns lg e x,eh b=false->eZ s a b=some e->P ps e (fB b||f) (JZ m ns (cut s a e)) (JS m lg (cut s a e)) x->P (.mk m b::ps) a f ns lg x) (ps:List dZ):∀a f ns lg,P ps a f ns lg (d3 s ps a f ns lg):=by
 induction ps with
 |nil=>exact h0
 |cons p ps ih=>
  intro a f ns lg;cases p with
  |cur=>exact h1 _ _ _ _ _ _ (ih _ _ _ _)
  |mk m b=>
   cases e:eh b with
   |true=>rw[vW s m b ps a f ns lg e];exact h2 _ _ _ _ _ _ _ e
   |false=>
    cases k:eZ s a b with
    |none=>rw[u6 s m b ps a f ns lg e k];exact h3 _ _ _ _ _ _ _ e k
    |some z=>rw[mB s m b ps a f ns lg e k];exact h4 _ _ _ _ _ _ _ _ _ e k (ih _ _ _ _)
theorem FrR.row2{f:Nat->Option Nat}(h1:f 1=some 1)(h2:f 2=some 2)(h4:f 4=some 4){s:Str}{e:Int}{g:Bool}{v w:V}:FrR f (lJ s e g v w) (oZ s e g):=
 .k rfl (.o h1) (.k rfl .s (.k rfl .i (.k rfl (.o h2) (.k rfl .b (.k rfl (.o h4) .z)))))
section
variable{bb:gC}
theorem KQ(h:eh bb):pW bb=eV:=by cases bb<;>first | rfl | cases h
theorem HG(h:fB bb):pW bb=iv/\∀s a,eZ s a bb=some a:=by cases bb<;>first | exact⟨rfl,λI I=>rfl⟩ | cases h
theorem J7(h:eh bb=false):pW bb≠eV:=by cases bb<;>first | decide | cases h
theorem Lb(h:fB bb=false):pW bb≠iv:=by cases bb<;>first | decide | cases h
theorem An(bb:gC):gG (pW bb) [nB,hZ]=false/\pW bb≠hZ/\pW bb≠nB/\pW bb≠fI:=by cases bb<;>decide
end
nonrec theorem ID{b:Bs}{R P:O}{s:Str}{ps:List dZ}{x:fP×List LE}{n₀:Nat}{EI:eW}{j a:Nat}{ns:List Str}{lg:List LE}{f:Bool}{bb:gC}(G:dI b){m:lT}(hR:RO (fb [0,1,2,3,4]) R R)(hP:RO (fb [0,1,2,3,4]) P P)(hs:s.length<1000)(hp:ps.length<1000)(hl:n₀<1000)(hj:j<ps.length)(h1:d3 s (.mk m bb::ps.drop (j+1)) a f ns lg=x)(ha:a<=s.length)(hn:ns.length<=j)(hg:lg.length<=n₀+j):iE (C b) 20 (fe [657]) (fe []) EI False 30 5 (d0 jt) 3 (iD R P (lg.map d4) (tB s (a:Int) f (E2 m (lN bb))) (ns.map nJ)) (AY R P s x) (λI=>False) (Dj R P s ps x n₀ (j+1)):=by
 have big:=xG hs;have lgl:(lg.map d4).length<2^20:=by rw[af];omega
 have nsl:(ns.map nJ).length<2^20:=by rw[af];omega
 have k0:gG (M3 m (pW bb)) [nB,hZ]=LY m:=by
  cases m with
  |bare=>exact(An bb).1
  |_=>rfl
 have kM:jv (cM m (lg.map d4) (ns.map nJ) s (pW bb)):=by
  cases m with
  |bare=>exact⟨ag (An bb).2.1,ag (An bb).2.2.1,N4⟩
  |now=>exact⟨by decide,lgl,big,by decide,N4⟩
  |later=>exact⟨nsl,big,by decide,by decide,N4⟩
 have S1:∀(fr:List (Nm×V)),ROs (fb [0,1,2,3,4]) (iD R P (lg.map d4) fr (ns.map nJ)) [R,P,.list true (lg.map d4),.frame [],.any]:=λfr=>
  .k hR (.k hP (.k (.l (.les _)) (.k (.f .z) (.k .lstAny .z))))
 have S2:∀(e:Nat) (g:Bool) (v w:V),ROs (fb [0,1,2,3,4]) (iD R P (LT m (lg.map d4) s a e) (lJ s e g v w) (Mp m (ns.map nJ) s a e)) (iD R P ((JS m lg (cut s a e)).map d4) (oZ s (e:Int) g) ((JZ m ns (cut s a e)).map nJ)):=λe g v w=>
  .k hR (.k hP (.k (.l (by
   cases m with
   |now=>exact .snoc (.les _) (.le (LE.tx (cut s a e)))
   |_=>exact .les _)) (.k (.f (.row2 (f:=fb [0,1,2,3,4]) rfl rfl rfl)) (.k (.l (by
   cases m with
   |later=>exact .snoc (.nms _) (.nm (cut s a e))
   |_=>exact .nms _)) .z))))
 have ge:∀(e:Nat) (g:Bool),e<=s.length->d3 s (ps.drop (j+1)) e g (JZ m ns (cut s a e)) (JS m lg (cut s a e))=x->Dj R P s ps x n₀ (j+1) (iD R P ((JS m lg (cut s a e)).map d4) (oZ s (e:Int) g) ((JZ m ns (cut s a e)).map nJ)):=λe g he h=>⟨e,g,_,_,rfl,h,he,by
   cases m with
   |later=>exact(ai).symm▸aC hn
   |_=>exact aG hn,by
   cases m with
   |now=>exact(ai).symm▸aC hg
   |_=>exact aG hg⟩
 cases hab:eh bb with
 |true=>
  have hx:x=(.over,lg):=by rw[<-h1,i8,hab]
  have kd:=KQ hab;rw[hx];exact fT [0,1,2,3,4] (wY ..) ⟨av kd,k0,N4⟩ (S1 _) .s ⟨rfl,rfl⟩
 |false=>
  have k1:=J7 hab;cases hf:fB bb with
  |true=>
   have kd:=(HG hf).1;have he:=(HG hf).2 s a;rw[mB s m bb _ a f ns lg hab he,hf] at h1;exact eS [0,1,2,3,4] (wv ..) (kJ (kJ kM ⟨av kd,ag k1,N4⟩) ⟨k0,N4⟩) (S2 a true _ _) (ge a true ha h1)
  |false=>
   have k2:=Lb hf;have k3:=(An bb).2.2.2;have q:=Lg G hs ha bb hf hab;cases he:eZ s a bb with
   |none=>
    rw[i8,hab,he] at h1;rw[he] at q;rw[<-h1];have e:=fT (NP:=AY R P s (if f then .over else .no,lg)) (XP:=λI=>False) (J:=Dj R P s ps (if f then .over else .no,lg) n₀ (j+1)) (EI:=EI) (rz:=False) (orc':=fe []) (k:=5) (b:=b) (r:=20) (w:=MY f) [0,1,2,3,4] (ye (m:=m) (kd:=pW bb) (tl:=DO bb) (a:=a) (f:=f) ..) ⟨q _,ag k3,ag k2,ag k1,k0,N4⟩ (S1 _) (by cases f<;>first | exact .n | exact .s) (by cases f<;>exact⟨rfl,rfl⟩);exact e
   |some e=>
    rw[mB s m bb _ a f ns lg hab he,hf] at h1;rw[he] at q;exact eS [0,1,2,3,4] (yK ..) (kJ (kJ kM ⟨q _,ag k3,ag k2,ag k1,N4⟩) ⟨k0,N4⟩) (S2 e f _ _) (ge e f (tD ha he) h1)
theorem C2{b:Bs}{R P:O}{s:Str}{ps:List dZ}{x:fP×List LE}{n₀:Nat}{EI:eW}{j a:Nat}{ns:List Str}{lg:List LE}(G:dI b)(hR:RO (fb [0,1,2,3,4]) R R)(hP:RO (fb [0,1,2,3,4]) P P)(hs:s.length<1000)(hp:ps.length<1000)(hl:n₀<1000){p:dZ}(ej:nth ps j=some p){f:Bool}(h1:d3 s (ps.drop j) a f ns lg=x)(ha:a<=s.length)(hn:ns.length<=j)(hg:lg.length<=n₀+j):iE (C b) 20 (fe [657]) (fe []) EI False 30 5 (d0 jt) 3 (iD R P (lg.map d4) (tB s (a:Int) f (db 0 p)) (ns.map nJ)) (AY R P s x) (λI=>False) (Dj R P s ps x n₀ (j+1)):=by
 rw[uZ ej] at h1;cases p with
 |cur=>
  have h1:d3 s (ps.drop (j+1)) a f ns (lg++[LE.at a])=x:=h1;exact eS [0,1,2,3,4] (BU ..) ⟨by decide,by decide,by rw[af];have:=fR ej;omega,by decide,by decide,by decide,by decide,N4⟩ (H':=iD R P ((lg++[LE.at a]).map d4) (oZ s (a:Int) f) (ns.map nJ)) (.k hR (.k hP (.k (.l (.snoc (.les _) (.le (LE.at a)))) (.k (.f (.row2 (f:=fb [0,1,2,3,4]) rfl rfl rfl)) (.k (.l (.nms _)) .z))))) ⟨a,f,ns,lg++[LE.at a],rfl,h1,ha,aG hn,(ai).symm▸aC hg⟩
 |mk m bb=>
  rw[show db 0 (.mk m bb)=E2 m (lN bb) from by cases m<;>rfl];exact ID G hR hP hs hp hl (fR ej) h1 ha hn hg
nonrec theorem D0{b:Bs}{R:O}{s:Str}{ps:List dZ}{x:fP×List LE}{EI:eW}{a₀:Nat}{lg2:List LE}(G:dI b)(hR:∀f,RO f R R)(hs:s.length<1000)(hp:ps.length<1000)(ha:a₀<=s.length)(hl:lg2.length<1000)(hx:d3 s ps a₀ false [] lg2=x):dL ((C b).at (30+20)) EI False jt 3 (iD R (.list true (ps.map (db 0))) (lg2.map d4) (oZ s (a₀:Int) false) []) (AY R (.list true (ps.map (db 0))) s x) (λI=>False):=by
 have hP:RO (fb [0,1,2,3,4]) (.list true (ps.map (db 0))) (.list true (ps.map (db 0))):=.l (.parts (by rfl) _);have K:=dD G (l:=[657]) ();show dL _ _ _ (.for dU (.loc io) (d0 jt)) _ _ _ _;refine rN (c:=C b) (k:=5) (N2:=.lst 1 (ps.map (db 0))) G.X G.F K (dD G (l:=[]) ()) (orc':=fe []) (ao _) (kK G.X G.F K (st:=⟨iD R (.list true (ps.map (db 0))) (lg2.map d4) (oZ s (a₀:Int) false) [],[],[]⟩) (y:=true) rfl (λI m=>by cases m) rfl) (by intro z;cases z)
  (Dj R (.list true (ps.map (db 0))) s ps x lg2.length) ⟨a₀,false,[],lg2,rfl,hx,ha,aJ _,ao _⟩ (λi xs z=>by cases z;decide) (λj σ hI=>?_) (λj σ v hI hv=>?_) (λσ hI=>?_)
 .obtain⟨a,f,ns,lg,rfl,_⟩:=hI
  exact⟨true,rfl⟩
 .obtain⟨a,f,ns,lg,rfl,h1,h2,h3,h4⟩:=hI
  have hv:nth (ps.map (db 0)) j=some v:=hv;rw[jH] at hv;obtain⟨p,ep,rfl⟩:=aq.mp hv;exact⟨⟨iD R (.list true (ps.map (db 0))) (lg.map d4) (tB s (a:Int) f (db 0 p)) (ns.map nJ),[],[]⟩,rfl,C2 G (hR _) hP hs hp hl ep h1 h2 h3 h4⟩
 .obtain⟨a,f,ns,lg,rfl,h1,h2,h3,h4⟩:=hI
  have:ps.drop (qX.lst 1 (ps.map (db 0))).len=[]:=by
   show ps.drop (ps.map (db 0)).length=[]
   rw[af,List.drop_length]
  rw[this] at h1;refine⟨some,dg.id ?_⟩;rw[<-h1];exact⟨rfl,rfl⟩
def Mc:fP->V
 | .over=>.str false mq
 | .no=>.none
 | .ok a _ f=>.tup [.int true (a:Int),.obj 3,.bool f]
def C5:fP->List O
 | .ok _ ns _=>[.list true (ns.map nJ)]
 |_=>[]
theorem J5{b:Bs}{R:O}{s:Str}{ps:List dZ}{x:fP×List LE}(G:dI b)(hR:∀f,RO f R R)(hs:s.length<1000)(hp:ps.length<1000){a:Nat}{lg:List LE}(ha:a<=s.length)(hl:lg.length<1000)(hx:d3 s ps a false [] lg=x):
  Ct b 70 664 [.obj 1,.str true s,.int true (a:Int),.obj 2] [R,.list true (ps.map (db 0)),.list true (lg.map d4)] (Mc x.1) ([R,.list true (ps.map (db 0)),.list true (x.2.map d4)]++C5 x.1):=by
 have L:=D0 (EI:=λI I I=>True) G hR hs hp ha hl hx;obtain⟨rr,G'⟩:=x;cases rr with
 |over=>exact dF G (r:=50) (n:=20) (l₀:=[]) [0,1,2] (Eu ..) ⟨dL.normal L,N4⟩ (.k (hR _) (.k (.l (.parts (by rfl) _)) (.k (.l (.les _)) .z))) .s
 |no=>exact dF G (r:=50) (n:=20) (l₀:=[]) [0,1,2] (Eu ..) ⟨dL.normal L,N4⟩ (.k (hR _) (.k (.l (.parts (by rfl) _)) (.k (.l (.les _)) .z))) .n
 |ok e ns f=>exact dF G (r:=50) (n:=20) (l₀:=[]) [0,1,2,4] (Io ..) ⟨dL.normal L,N4⟩ (.k (hR _) (.k (.l (.parts (by rfl) _)) (.k (.l (.les _)) (.k (.l (.nms _)) .z)))) (.t (.k .i (.k (.o rfl) (.k .b .z))))
end
section
set_option tactic.hygienic true
def jX(s:Str)(an:Bool):List (Nm×V):=[(hK,.obj 1),(gW,.obj 2),(cS,.str true s),(cT,.bool an),(eP,.obj 4)]
def fM(s:Str)(an:Bool)(j:Int):List (Nm×V):=[(hK,.obj 1),(gW,.obj 2),(cS,.str true s),(cT,.bool an),(eP,.obj 4),(dB,.int true j)]
def kr(s:Str)(an:Bool)(j a:Int)(f:Bool):List (Nm×V):=[(hK,.obj 1),(gW,.obj 2),(cS,.str true s),(cT,.bool an),(eP,.obj 4),(dB,.int true j),(nh,.tup [.int true a,.obj 5,.bool f]),(kE,.obj 6)]
section
variable(sp:jC) (sl:jz) (r:Nat) (R F B:O) (lg L':List V) (s:Str) (an:Bool) (j a:Int) (f:Bool) (ns rs:List V) (e:Int) (f2:Bool) (ms:List V)
theorem x8:TS sp sl r [0,1,2,3,4] [664] 30 (d0 gg) 3 ⟨[R,F,B,.frame (fM s an j),.list true lg],[.k (.str false mq) ([R,F,B,.frame (fM s an j),.list true L'])],[]⟩ (Fl.ret (.tup [.tup [.str false (S [110,111,110,101])],.obj 4])) [R,F,B,.frame [(168,.obj 1),(169,.obj 2),(75,.str true s),(132,.bool an),(143,.obj 4),(108,.int true j),(170,.str false mq)],.list true L'] [sp 664 [.obj 1,.str true s,.int true j,.obj 4] [R,F,B,O.frame (fM s an j),O.list true lg] (V.str false mq) [R,F,B,O.frame (fM s an j),O.list true L']]:=by
 walk_at"k"
theorem DX:TS sp sl r [0,1,2,3,4] [664] 30 (d0 gg) 3 ⟨[R,F,B,.frame (fM s an j),.list true lg],[.k (.none) ([R,F,B,.frame (fM s an j),.list true L'])],[]⟩ Fl.next [R,F,B,.frame [(168,.obj 1),(169,.obj 2),(75,.str true s),(132,.bool an),(143,.obj 4),(108,.int true j),(170,.none)],.list true L'] [sp 664 [.obj 1,.str true s,.int true j,.obj 4] [R,F,B,O.frame (fM s an j),O.list true lg] V.none [R,F,B,O.frame (fM s an j),O.list true L']]:=by
 walk_at"k"
theorem xz:TS sp sl r [0,1,2,3,4,6] [664] 30 (d0 gg) 3 ⟨[R,F,B,.frame (fM s an j),.list true lg],[.k (.tup [.int true a,.obj 5,.bool f]) ([R,F,B,.frame (fM s an j),.list true L']++[.list true ns]),.k (.none) ([R,F,B,.frame (kr s an j a f),.list true L',.list true ns,.list true rs])],[]⟩ (Fl.ret (.tup [.tup [.str false (S [114,111,117,110,100]),.obj 6],.obj 4])) [R,F,B,.frame [(168,.obj 1),(169,.obj 2),(75,.str true s),(132,.bool an),(143,.obj 4),(108,.int true j),(170,.tup [.int true a,.obj 5,.bool f]),(172,.obj 6),(173,.none)],.list true L',.list true rs] [sp 664 [.obj 2,.str true s,.int true a,.obj 6] [R,F,B,O.frame (kr s an j a f),O.list true L',O.list true ns,O.list true []] V.none [R,F,B,O.frame (kr s an j a f),O.list true L',O.list true ns,O.list true rs],sp 664 [.obj 1,.str true s,.int true j,.obj 4] [R,F,B,O.frame (fM s an j),O.list true lg] (V.tup [V.int true a,V.obj 5,V.bool f]) [R,F,B,O.frame (fM s an j),O.list true L',O.list true ns]]:=by
 walk_at"k"
theorem w7:TS sp sl r [0,1,2,3,4,7] [664] 30 (d0 gg) 3 ⟨[R,F,B,.frame (fM s an j),.list true lg],[.k (.tup [.int true a,.obj 5,.bool f]) ([R,F,B,.frame (fM s an j),.list true L']++[.list true ns]),.k (.str false mq) ([R,F,B,.frame (kr s an j a f),.list true L',.list true ns,.list true rs])],[]⟩ (Fl.ret (.tup [.tup [.str false (S [110,111,110,101])],.obj 7])) [R,F,B,O.frame [(168,V.obj 1),(169,V.obj 2),(75,V.str true s),(132,V.bool an),(143,V.obj 4),(108,V.int true j),(170,V.tup [V.int true a,V.obj 5,V.bool f]),(172,V.obj 6),(173,V.str false mq)],O.list true L',O.list true (L'++rs)] [List.length L'+List.length rs<=sizeLine,sp 664 [.obj 2,.str true s,.int true a,.obj 6] [R,F,B,O.frame (kr s an j a f),O.list true L',O.list true ns,O.list true []] (V.str false mq) [R,F,B,O.frame (kr s an j a f),O.list true L',O.list true ns,O.list true rs],sp 664 [.obj 1,.str true s,.int true j,.obj 4] [R,F,B,O.frame (fM s an j),O.list true lg] (V.tup [V.int true a,V.obj 5,V.bool f]) [R,F,B,O.frame (fM s an j),O.list true L',O.list true ns]]:=by
 walk_at"k"
theorem Cv:TS sp sl r [0,1,2,3,4,9,8] [664] 30 (d0 gg) 3 ⟨[R,F,B,.frame (fM s an j),.list true lg],[.k (.tup [.int true a,.obj 5,.bool f]) ([R,F,B,.frame (fM s an j),.list true L']++[.list true ns]),.k (.tup [.int true e,.obj 7,.bool f2]) ([R,F,B,.frame (kr s an j a f),.list true L',.list true ns,.list true rs]++[.list true ms])],[]⟩ (Fl.ret (.tup [.tup [.str false (S [109,101,116]),.int true j,.int true e,.obj 8],.obj 9])) [R,F,B,O.frame [(168,V.obj 1),(169,V.obj 2),(75,V.str true s),(132,V.bool an),(143,V.obj 4),(108,V.int true j),(170,V.tup [V.int true a,V.obj 5,V.bool f]),(172,V.obj 6),(173,V.tup [V.int true e,V.obj 7,V.bool f2])],O.list true L',O.list true (L'++rs),O.list true (ns++ms)] [List.length L'+List.length rs<=sizeLine,List.length ns+List.length ms<=sizeLine,sp 664 [.obj 2,.str true s,.int true a,.obj 6] [R,F,B,O.frame (kr s an j a f),O.list true L',O.list true ns,O.list true []] (V.tup [V.int true e,V.obj 7,V.bool f2]) [R,F,B,O.frame (kr s an j a f),O.list true L',O.list true ns,O.list true rs,O.list true ms],sp 664 [.obj 1,.str true s,.int true j,.obj 4] [R,F,B,O.frame (fM s an j),O.list true lg] (V.tup [V.int true a,V.obj 5,V.bool f]) [R,F,B,O.frame (fM s an j),O.list true L',O.list true ns]]:=by
 walk_at"k"
theorem Jg:TC sp sl r [0,1,2,4] [] 20 671 [.obj 1,.obj 2,.str true s,.bool an] ⟨[R,F,B],[.l .next [R,F,B,.frame (jX s an),.list true lg]],[]⟩ (.tup [.tup [.str false (S [110,111,110,101])],.obj 4]) [R,F,B,.list true lg] [sl gg 3 [R,F,B,O.frame (jX s an),O.list true []] Fl.next [R,F,B,O.frame (jX s an),O.list true lg]]:=by
 walk_at"k"
theorem IQ:TC sp sl r [0,1,2,4] [] 20 671 [.obj 1,.obj 2,.str true s,.bool an] ⟨[R,F,B],[.l (.ret (.tup [.tup [.str true js],.obj 4])) [R,F,B,.frame [],.list true lg]],[]⟩ (.tup [.tup [.str true js],.obj 4]) [R,F,B,.list true lg] [sl gg 3 [R,F,B,O.frame (jX s an),O.list true []] (Fl.ret (V.tup [V.tup [V.str true js],V.obj 4])) [R,F,B,O.frame [],O.list true lg]]:=by
 walk_at"k"
theorem I1:TC sp sl r [0,1,2,5] [] 20 671 [.obj 1,.obj 2,.str true s,.bool an] ⟨[R,F,B],[.l (.ret (.tup [.tup [.str true js],.obj 5])) [R,F,B,.frame [],.any,.list true lg]],[]⟩ (.tup [.tup [.str true js],.obj 5]) [R,F,B,.list true lg] [sl gg 3 [R,F,B,O.frame (jX s an),O.list true []] (Fl.ret (V.tup [V.tup [V.str true js],V.obj 5])) [R,F,B,O.frame [],O.any,O.list true lg]]:=by
 walk_at"k"
theorem Iu:TC sp sl r [0,1,2,4,5] [] 20 671 [.obj 1,.obj 2,.str true s,.bool an] ⟨[R,F,B],[.l (.ret (.tup [.tup [.str true jZ,.obj 5],.obj 4])) [R,F,B,.frame [],.list true lg,.list true rs]],[]⟩ (.tup [.tup [.str true jZ,.obj 5],.obj 4]) [R,F,B,.list true lg,.list true rs] [sl gg 3 [R,F,B,O.frame (jX s an),O.list true []] (Fl.ret (V.tup [V.tup [V.str true jZ,V.obj 5],V.obj 4])) [R,F,B,O.frame [],O.list true lg,O.list true rs]]:=by
 walk_at"k"
theorem JK(sp:jC)(sl:jz)(r:Nat)(R F B:O)(lg:List V)(s:Str)(an:Bool)(ns:List V)(j e:Int):TC sp sl r [0,1,2,5,6] [] 20 671 [.obj 1,.obj 2,.str true s,.bool an] ⟨[R,F,B],[.l (.ret (.tup [.tup [.str true lV,.int true j,.int true e,.obj 6],.obj 5])) [R,F,B,.frame [],.any,.list true lg,.list true ns]],[]⟩ (.tup [.tup [.str true lV,.int true j,.int true e,.obj 6],.obj 5]) [R,F,B,.list true lg,.list true ns] [sl gg 3 [R,F,B,O.frame (jX s an),O.list true []] (Fl.ret (V.tup [V.tup [V.str true lV,V.int true j,V.int true e,V.obj 6],V.obj 5])) [R,F,B,O.frame [],O.any,O.list true lg,O.list true ns]]:=by
 walk_at"k"
end
def Ld(s:Str)(ps:List dZ)(a:Nat)(_:Bool)(ns:List Str)(lg:List LE)(x:fP×List LE):Prop:=x.2.length<=lg.length+ps.length/\∀e ms g,x.1= .ok e ms g->(a<=s.length->e<=s.length)/\ms.length<=ns.length+ps.length
theorem FM{m:lT}{ns:List Str}{t:Str}:(JZ m ns t).length<=ns.length+1:=by cases m with | later=>exact aY (ai ..) | _=>exact au _
theorem Hh{m:lT}{lg:List LE}{t:Str}:(JS m lg t).length<=lg.length+1:=by cases m with | now=>exact aY (ai ..) | _=>exact au _
theorem zw{a b c d:Nat}(h:a<=b+c)(k:b<=d+1):a<=d+(c+1):=ax (ax h (Nat.add_le_add_right k c)) (aY (bO _ _))
theorem rD(s:Str)(ps:List dZ)(a:Nat)(f:Bool)(ns:List Str)(lg:List LE):Ld s ps a f ns lg (d3 s ps a f ns lg):=by
 refine oF (P:=Ld s) (λI I I I=>⟨ao _,λI I I e=>?_⟩) (λI I I I I I h=>⟨zw h.1 (aY (ai ..)),λe ms g z=>⟨(h.2 e ms g z).1,aG (h.2 e ms g z).2⟩⟩) (λI I I I I I I I=>⟨aA _ _,λI I I e=>by injection e⟩)
  (λI I I I f I I I I=>⟨aA _ _,λI I I e=>by cases f<;>injection e⟩) (λI I I I I I I I I I k h=>⟨zw h.1 Hh,λe ms g z=>⟨λha=>(h.2 e ms g z).1 (tD ha k),zw (h.2 e ms g z).2 FM⟩⟩) ps a f ns lg
 injection e with e1 e2;exact⟨λh=>e1▸h,aY (e2▸rfl)⟩
theorem xw(s:Str)(ps:List dZ)(a:Nat)(f:Bool)(ns:List Str)(lg:List LE):(d3 s ps a f ns lg).2.length<=lg.length+ps.length:=(rD s ps a f ns lg).1
theorem lH(s:Str)(ps:List dZ)(a:Nat)(f:Bool)(ns:List Str)(lg:List LE){e:Nat}{ms:List Str}{g:Bool}{G':List LE}(h:d3 s ps a f ns lg=(.ok e ms g,G'))(ha:a<=s.length):e<=s.length/\ms.length<=ns.length+ps.length:=
 have q:=(rD s ps a f ns lg).2 e ms g (az Prod.fst h)
 ⟨q.1 ha,q.2⟩
def Kw(n:Nat):fP->V
 | .over=>.str false mq
 | .no=>.none
 | .ok a _ f=>.tup [.int true (a:Int),.obj n,.bool f]
theorem H8{b:Bs}{R:O}{s:Str}(G:dI b)(hR:∀f,RO f R R)(hs:s.length<1000){ps:List dZ}{x:fP×List LE}(hp:ps.length<1000){a:Nat}{lg:List LE}(ha:a<=s.length)(hl:lg.length<1000)(hx:d3 s ps a false [] lg=x)(os:List O)(p q:Nat)
  (e:[0,p,q].map (nth os ·)=[R,.list true (ps.map (db 0)),.list true (lg.map d4)].map some) (nd:[0,p,q].Nodup) (i1:fb [0,p,q] p=some 1) (i2:fb [0,p,q] q=some 2):
  Ct b 70 664 [.obj p,.str true s,.int true (a:Int),.obj q] os (Kw os.length x.1) (fG os [0,p,q] [R,.list true (ps.map (db 0)),.list true (x.2.map d4)]++C5 x.1):=by
 have T:=J5 (x:=x) G hR hs hp ha hl hx;have fr:=fJ.frame (l:=[0,p,q]) (os:=os) (I':=[R,.list true (ps.map (db 0)),.list true (lg.map d4)]) (news:=[R,.list true (ps.map (db 0)),.list true (x.2.map d4)]++C5 x.1) (vs:=[.obj p,.str true s,.int true (a:Int),.obj q]) (w:=Kw os.length x.1) rfl T e nd
  (.k (hR _) (.k (.l (.parts (by rfl) _)) (.k (.l (.les _)) .z))) (.k (.o i1) (.k .s (.k .i (.k (.o i2) .z)))) ?_ ?_
 .exact fr
 .refine .k (hR _) (.k (.l (.parts (by rfl) _)) (.k (.l (.les _)) ?_))
  cases x.1 with
  |over=>exact .z
  |no=>exact .z
  |ok e ns f=>exact .k (.l (.nms _)) .z
 .cases x.1 with
  |over=>exact .s
  |no=>exact .n
  |ok e ns f=>exact .t (.k .i (.k (.o (by unfold back;simp [nth])) (.k .b .z)))
def Ie(R F B:O)(s:Str)(an:Bool)(x:ii×List LE)(fl:Fl)(σ:List O):Prop:=match x with
 |(.none 0,lg)=>fl= .next/\σ=[R,F,B,.frame (jX s an),.list true (lg.map d4)]
 |(.none 1,lg)=>fl= .ret (.tup [.tup [.str true js],.obj 4])/\σ=[R,F,B,.frame [],.list true (lg.map d4)]
 |(.none (_+2),lg)=>fl= .ret (.tup [.tup [.str true js],.obj 5])/\σ=[R,F,B,.frame [],.any,.list true (lg.map d4)]
 |(.round rs,lg)=>fl= .ret (.tup [.tup [.str true jZ,.obj 5],.obj 4])/\σ=[R,F,B,.frame [],.list true (lg.map d4),.list true (rs.map d4)]
 |(.met j e ns,lg)=>fl= .ret (.tup [.tup [.str true lV,.int true (j:Int),.int true (e:Int),.obj 6],.obj 5])/\σ=[R,F,B,.frame [],.any,.list true (lg.map d4),.list true (ns.map nJ)]
def KX(R F B:O)(s:Str)(fp bp:List dZ)(an:Bool)(x:ii×List LE)(n:Nat)(j:Nat)(σ:List O):Prop:=
 ∃lg:List LE,σ=[R,F,B,.frame (jX s an),.list true (lg.map d4)]/\l8 s fp bp (n - j) j lg=x/\lg.length<=8*j
theorem kU(s:Str)(front behind:List dZ)(n b:Nat)(lg:List LE):l8 s front behind (n+1) b lg=match d3 s front b false [] lg with
  |(.over,lg)=>(.none 1,lg)
  |(.no,lg)=>l8 s front behind n (b+1) lg
  |(.ok a ns _,lg)=>match d3 s behind a false [] [] with
   |(.no,rs)=>(.round rs,lg)
   |(.over,rs)=>(.none 2,lg++rs)
   |(.ok e ms _,rs)=>(.met b e (ns++ms),lg++rs):=rfl
nonrec theorem EB{b:Bs}{R:O}{s:Str}{fp bp:List dZ}{an:Bool}{x:ii×List LE}{EI:eW}{n j:Nat}{lg:List LE}(G:dI b)(hR:∀f,RO f R R)(hs:s.length<=8)(hf:fp.length<=8)(hb:bp.length<=8)(hj:j<n)(hn:n<=s.length+1)(h1:l8 s fp bp (n - j) j lg=x)(hl:lg.length<=8*j):iE (C b) 70 (fe [664]) (fe []) EI False 30 5 (d0 gg) 3 [R,.list true (fp.map (db 0)),.list true (bp.map (db 0)),.frame (fM s an (j:Int)),.list true (lg.map d4)] (Ie R (.list true (fp.map (db 0))) (.list true (bp.map (db 0))) s an x) (λI=>False)
   (KX R (.list true (fp.map (db 0))) (.list true (bp.map (db 0))) s fp bp an x n (j+1)):=by
 have hs1:s.length<1000:=by omega
 have hf1:fp.length<1000:=by omega
 have hb1:bp.length<1000:=by omega
 have hj1:j<=s.length:=by omega
 have big:=dv;rw[show n - j=(n - (j+1))+1 from by omega,kU] at h1;have hlen:=xw s fp j false [] lg;have hok:=λe ms g G'=>lH s fp j false [] lg (e:=e) (ms:=ms) (g:=g) (G':=G');generalize hx1:d3 s fp j false [] lg=x1 at h1 hlen hok;have q1:=H8 G hR hs1 hf1 hj1 (by omega) hx1 [R,.list true (fp.map (db 0)),.list true (bp.map (db 0)),.frame (fM s an (j:Int)),.list true (lg.map d4)] 1 4 rfl () rfl rfl;have FB:∀{ks:List Nat},fb ks 0=some 0->RO (fb ks) (.list true (fp.map (db 0))) (.list true (fp.map (db 0))):=λe=>.l (.parts e _);have BB:∀{ks:List Nat},fb ks 0=some 0->RO (fb ks) (.list true (bp.map (db 0))) (.list true (bp.map (db 0))):=λe=>.l (.parts e _);obtain⟨r1,L'⟩:=x1;cases r1 with
 |over=>
  have h1:(ii.none 1,L')=x:=h1;rw[<-h1];exact fT [0,1,2,3,4] (x8 ..) ⟨q1,N4⟩ (.k (hR _) (.k (FB rfl) (.k (BB rfl) (.k (.f .z) (.k (.l (.les _)) .z))))) (.t (.k (.t (.k .s .z)) (.k (.o rfl) .z))) ⟨rfl,rfl⟩
 |no=>
  have h1:l8 s fp bp (n - (j+1)) (j+1) L'=x:=h1;refine eS [0,1,2,3,4] (DX ..) ⟨q1,N4⟩ (.k (hR _) (.k (FB rfl) (.k (BB rfl) (.k (.f ?_) (.k (.l (.les _)) .z))))) ⟨L',rfl,h1,by dsimp only at hlen;omega⟩;unfold jX
  walk_at "ro"
 |ok a ns f=>
  obtain⟨ha,hns⟩:=hok a ns f L' rfl hj1;dsimp only at h1 hlen;have hlen2:=xw s bp a false [] [];have hok2:=λe ms g G'=>lH s bp a false [] [] (e:=e) (ms:=ms) (g:=g) (G':=G');generalize hx2:d3 s bp a false [] []=x2 at h1 hlen2 hok2;have q2:=H8 G hR hs1 hb1 ha () hx2 [R,.list true (fp.map (db 0)),.list true (bp.map (db 0)),.frame (kr s an (j:Int) (a:Int) f),.list true (L'.map d4),.list true (ns.map nJ),.list true []] 2 6 rfl () rfl rfl;obtain⟨r2,rs⟩:=x2;cases r2 with
  |no=>
   have h1:(ii.round rs,L')=x:=h1;rw[<-h1];exact fT [0,1,2,3,4,6] (xz ..) ⟨q2,q1,N4⟩ (.k (hR _) (.k (FB rfl) (.k (BB rfl) (.k (.f .z) (.k (.l (.les _)) (.k (.l (.les _)) .z))))))
    (.t (.k (.t (.k .s (.k (.o rfl) .z))) (.k (.o rfl) .z))) ⟨rfl,rfl⟩
  |over=>
   have h1:(ii.none 2,L'++rs)=x:=h1;rw[<-h1];refine fT [0,1,2,3,4,7] (w7 ..) ⟨?_,q2,q1,N4⟩ (.k (hR _) (.k (FB rfl) (.k (BB rfl) (.k (.f .z) (.k .lstAny (.k (.l (ys:=(L'++rs).map d4) ?_) .z))))))
    (.t (.k (.t (.k .s .z)) (.k (.o rfl) .z))) ⟨rfl,rfl⟩
   .simp only[af]
    simp only[bI] at hlen2;omega
   .rw[bn];exact(RVs.les _).app' (.les _)
  |ok e ms g=>
   have h1:(ii.met j e (ns++ms),L'++rs)=x:=h1;have hms:=(hok2 e ms g rs rfl ha).2;rw[<-h1];refine fT [0,1,2,3,4,9,8] (Cv ..) ⟨?_,?_,q2,q1,N4⟩
    (.k (hR _) (.k (FB rfl) (.k (BB rfl) (.k (.f .z) (.k .lstAny (.k (.l (ys:=(L'++rs).map d4) ?_) (.k (.l (ys:=(ns++ms).map nJ) ?_) .z)))))))
    (.t (.k (.t (.k .s (.k .i (.k .i (.k (.o rfl) .z))))) (.k (.o rfl) .z))) ⟨rfl,rfl⟩
   .simp only[af]
    simp only[bI] at hlen2;omega
   .simp only[af]
    simp only[bI] at hms hns;omega
   .rw[bn];exact(RVs.les _).app' (.les _)
   .rw[bn];exact(RVs.nms _).app' (.nms _)
nonrec theorem Dt{b:Bs}{R:O}{s:Str}{fp bp:List dZ}{x:ii×List LE}{EI:eW}{{an:Bool}}(G:dI b)(hR:∀f,RO f R R)(hs:s.length<=8)(hf:fp.length<=8)(hb:bp.length<=8)(hx:wm s fp bp an=x):
  dL ((C b).at (30+70)) EI False gg 3 [R,.list true (fp.map (db 0)),.list true (bp.map (db 0)),.frame (jX s an),.list true []] (Ie R (.list true (fp.map (db 0))) (.list true (bp.map (db 0))) s an x) (λI=>False):=by
 have K:=dD G (l:=[664]) ();have hi:uH ((C b).at (30+70)) (.call (.glb gJ) [(.ite (.loc cT) (.cst (.int 1)) (.bin .Add (.call (.glb fW) [(.loc cS)]) (.cst (.int 1))))]) 3 [R,.list true (fp.map (db 0)),.list true (bp.map (db 0)),.frame (jX s an),.list true []] (.rng (dJ s an)) [R,.list true (fp.map (db 0)),.list true (bp.map (db 0)),.frame (jX s an),.list true []]:=by
  cases an with
  |true=>exact iA (c:=C b) (st:=⟨[R,.list true (fp.map (db 0)),.list true (bp.map (db 0)),.frame (jX s true),.list true []],[],[]⟩) (ch:=[]) (y:=false) (m:=1) G.X G.F K rfl (by rfl) (λI m=>by cases m) ()
  |false=>exact iA (c:=C b) (st:=⟨[R,.list true (fp.map (db 0)),.list true (bp.map (db 0)),.frame (jX s false),.list true []],[],[s.length<2^20]⟩) (ch:=[]) (y:=true) (m:=s.length+1) G.X G.F K rfl (by rfl) (λI m=>by cases m with | head=>show s.length<2^20;omega | tail _ m=>cases m) (by omega)
 have hn:dJ s an<=s.length+1:=by unfold dJ;split<;>omega
 show dL _ _ _ (.for dB (.call (.glb gJ) [(.ite (.loc cT) (.cst (.int 1)) (.bin .Add (.call (.glb fW) [(.loc cS)]) (.cst (.int 1))))]) (d0 gg)) _ _ _ _;refine rN (c:=C b) (k:=5) (N2:=.rng (dJ s an)) G.X G.F K (dD G (l:=[]) ()) (orc':=fe []) (ao _) hi (by intro z;injection z)
  (KX R (.list true (fp.map (db 0))) (.list true (bp.map (db 0))) s fp bp an x (dJ s an)) ⟨[],rfl,hx,by decide⟩ (λi xs z=>by injection z) (λj σ hI=>by show dJ s an<2^60;omega) (λj σ v hI hv=>?_) (λσ hI=>?_)
 .obtain⟨lg,rfl,h1,h2⟩:=hI
  have hv:(if j<dJ s an then some (V.int true (j:Nat)) else none)=some v:=hv
  by_cases z:j<dJ s an
  .rw[if_pos z] at hv
   cases hv;exact⟨⟨[R,.list true (fp.map (db 0)),.list true (bp.map (db 0)),.frame (fM s an (j:Int)),.list true (lg.map d4)],[],[]⟩,rfl,EB G hR hs hf hb z hn h1 h2⟩
  .rw[if_neg z] at hv;injection hv
 .obtain⟨lg,rfl,h1,h2⟩:=hI
  have h1:l8 s fp bp (dJ s an - dJ s an) (dJ s an) lg=x:=h1;rw[Nat.sub_self] at h1;have h1:(ii.none 0,lg)=x:=h1;refine⟨some,dg.id ?_⟩;rw[<-h1];exact⟨rfl,rfl⟩
def Jx(n:Nat):ii->V
 | .none _=>.tup [.tup [.str true js],.obj n]
 | .round _=>.tup [.tup [.str true jZ,.obj (n+1)],.obj n]
 | .met j e _=>.tup [.tup [.str true lV,.int true (j:Int),.int true (e:Int),.obj (n+1)],.obj n]
def xA:ii->List O
 | .none _=>[]
 | .round rs=>[.list true (rs.map d4)]
 | .met _ _ ns=>[.list true (ns.map nJ)]
nonrec theorem Ln{b:Bs}{R:O}{s:Str}{fp bp:List dZ}{an:Bool}{{x:ii×List LE}}(G:dI b)(hR:∀f,RO f R R)(hs:s.length<=8)(hf:fp.length<=8)(hb:bp.length<=8)(hx:wm s fp bp an=x):
  Ct b 120 671 [.obj 1,.obj 2,.str true s,.bool an] [R,.list true (fp.map (db 0)),.list true (bp.map (db 0))] (Jx 3 x.1) ([R,.list true (fp.map (db 0)),.list true (bp.map (db 0)),.list true (x.2.map d4)]++xA x.1):=by
 have L:=Dt (EI:=λI I I=>True) G hR hs hf hb hx;have FB:∀{ks:List Nat},fb ks 0=some 0->RO (fb ks) (.list true (fp.map (db 0))) (.list true (fp.map (db 0))):=λe=>.l (.parts e _);have BB:∀{ks:List Nat},fb ks 0=some 0->RO (fb ks) (.list true (bp.map (db 0))) (.list true (bp.map (db 0))):=λe=>.l (.parts e _);obtain⟨rr,lg⟩:=x;cases rr with
 |none w=>
  match w,L with
  |0,L=>exact dF G (r:=100) (n:=20) (l₀:=[]) [0,1,2,4] (Jg ..) ⟨dL.normal L,N4⟩ (.k (hR _) (.k (FB rfl) (.k (BB rfl) (.k (.l (.les _)) .z)))) (.t (.k (.t (.k .s .z)) (.k (.o rfl) .z)))
  |1,L=>exact dF G (r:=100) (n:=20) (l₀:=[]) [0,1,2,4] (IQ ..) ⟨dL.normal L,N4⟩ (.k (hR _) (.k (FB rfl) (.k (BB rfl) (.k (.l (.les _)) .z)))) (.t (.k (.t (.k .s .z)) (.k (.o rfl) .z)))
  |w+2,L=>exact dF G (r:=100) (n:=20) (l₀:=[]) [0,1,2,5] (I1 ..) ⟨dL.normal L,N4⟩ (.k (hR _) (.k (FB rfl) (.k (BB rfl) (.k (.l (.les _)) .z)))) (.t (.k (.t (.k .s .z)) (.k (.o rfl) .z)))
 |round rs=>exact dF G (r:=100) (n:=20) (l₀:=[]) [0,1,2,4,5] (Iu ..) ⟨dL.normal L,N4⟩ (.k (hR _) (.k (FB rfl) (.k (BB rfl) (.k (.l (.les _)) (.k (.l (.les _)) .z))))) (.t (.k (.t (.k .s (.k (.o rfl) .z))) (.k (.o rfl) .z)))
 |met j e ns=>exact dF G (r:=100) (n:=20) (l₀:=[]) [0,1,2,5,6] (JK ..) ⟨dL.normal L,N4⟩ (.k (hR _) (.k (FB rfl) (.k (BB rfl) (.k (.l (.les _)) (.k (.l (.nms _)) .z))))) (.t (.k (.t (.k .s (.k .i (.k .i (.k (.o rfl) .z))))) (.k (.o rfl) .z)))
end
theorem jq(s:Str){a e:Nat}(h:a<=e)(ha:a<=s.length):(cut s a e).cps.toList=(s.cps.toList.drop a).take (e - a):=by
 by_cases c:e<=s.length
 .show(StrLaws.sliceText s (some (a:Int)) (some (e:Int))).cps.toList=_
  rw[StrLaws.sliceText_nat s h c]
 .have q:Txt.slice s (some (a:Int)) (some (e:Int))=Txt.slice s (some (a:Int)) (some (s.length:Int)):=by
   unfold Txt.slice;have:Builtin.Str.strSliceIndices (some (a:Int)) (some (e:Int)) 1 s.length=Builtin.Str.strSliceIndices (some (a:Int)) (some (s.length:Int)) 1 s.length:=by
    have h1:¬((e:Int)<0):=by omega
    have h2:¬((s.length:Int)<0):=by omega
    have h3:min (e:Int) (s.length:Int)=(s.length:Int):=by omega
    have h4:min (s.length:Int) (s.length:Int)=(s.length:Int):=by omega
    have h5:(1:Int) > 0:=by decide
    simp only[Builtin.Str.strSliceIndices,h1,h2,h3,h4,h5,if_false,if_true]
   rw[this]
  unfold cut;rw[q];show(StrLaws.sliceText s (some (a:Int)) (some (s.length:Int))).cps.toList=_;rw[StrLaws.sliceText_nat s ha (ao _)];show(s.cps.toList.drop a).take (s.length - a)=_;have hl:(s.cps.toList.drop a).length=s.length - a:=by rw[List.length_drop];rfl
  rw[List.take_of_length_le (by omega),List.take_of_length_le (by omega)]
theorem rn(s:Str){a e:Nat}(h:a<=e)(ha:a<=s.length):(cut s a e).length=min (e - a) (s.length - a):=by
 show(cut s a e).cps.size=_;rw[<-Array.length_toList,jq s h ha,cc,List.length_drop];rfl
section
set_option backward.match.sparseCases false
/-! the machine of orders,in plain Lean -/
def mj:Str:=S [111,110,101]
def Ic:Str:=S [109,97,114,107]
def HE:Str:=S [110,97,109,101]
def IF:Str:=S [115,101,116]
def za:Str:=S [112,108,97,99,101]
def gu:Str:=S [100,111,110,101]
def su:Str:=S [118,97,114]
inductive HV where
 |txt (s:Str)
 |len (n:Nat)
 |any
inductive fz where
 |one (o:HV)
 |fence | abort | fail | succeed | mark | name | set | place | done
def eE(s:Str)(a:Nat):HV->Option Nat
 | .txt t=>if cut s a (a+t.length)=t then some (a+t.length) else none
 | .len n=>if a+n<=s.length then some (a+n) else none
 | .any=>if a<s.length then(match Txt.contains lU (gH s a) with | true=>some (a+1) | false=>none) else none
def eM:fz->Str
 | .one _=>mj
 | .fence=>iv
 | .abort=>eV
 | .fail=>mG
 | .succeed=>gz
 | .mark=>Ic
 | .name=>HE
 | .set=>IF
 | .place=>za
 | .done=>gu
def Ka:HV->List V
 | .txt t=>[.str false dM,.str true t]
 | .len n=>[.str false jr,.int true (n:Int)]
 | .any=>[.str false kT,.str true lU]
def ordTl(r:Nat):fz->List V
 | .one o=>Ka o
 | .name=>[.obj r]
 | .set=>[.obj r]
 | .place=>[.obj r]
 |_=>[]
def ordV(r:Nat)(o:fz):V:=.tup (.str true (eM o)::ordTl r o)
def ordW(r:Nat)(o:fz):V:=.tup (.str false (eM o)::ordTl r o)
structure Wy where
 pc:Nat
 at_:Nat
 nm:List Str
 ms:List Nat
inductive Ht where
 |fen
 |suc (w:Wy)
inductive Hs where
 |emp
 |opq
 |top (t:Ht)
def ke(s:Str)(o:fz)(w:Wy)(h:Hs)(lg:List LE):Option (Bool×Wy×Hs×List LE):=match o with
 | .one o=>match eE s w.at_ o with
  |some e=>some (true,⟨w.pc+1,e,w.nm,w.ms⟩,h,lg)
  |none=>some (false,w,h,lg)
 | .fail=>some (false,w,h,lg)
 | .fence=>some (true,⟨w.pc+1,w.at_,w.nm,w.ms⟩,.top .fen,lg)
 | .succeed=>some (true,⟨w.pc+1,w.at_,w.nm,w.ms⟩,.top (.suc w),lg)
 | .mark=>some (true,⟨w.pc+1,w.at_,w.nm,w.at_::w.ms⟩,h,lg)
 | .name=>match w.ms with
  |m::mk=>some (true,⟨w.pc+1,w.at_,cut s m w.at_::w.nm,mk⟩,h,lg)
  |[]=>none
 | .set=>match w.ms with
  |m::mk=>some (true,⟨w.pc+1,w.at_,w.nm,mk⟩,h,lg++[.tx (cut s m w.at_)])
  |[]=>none
 | .place=>some (true,⟨w.pc+1,w.at_,w.nm,w.ms⟩,h,lg++[.at w.at_])
 |_=>none
inductive iF where
 |met (w:Wy)
 |over (w:Wy)
 |failed (w:Wy)
 |raised (w:Wy)
def first(p:Option Wy)(w:Wy):Wy:=match p with
 |none=>w
 |some v=>v
def fQ(s:Str)(os:List fz)(lim:Nat):Nat->Option Wy->Wy->Hs->List LE->Nat->Option (iF×List LE×Nat)
 |0,_,_,_,_,_=>none
 |n+1,p,w,h,lg,st=>if lim<st+1 then some (.raised (first p w),lg,st+1) else
  match nth os w.pc with
  |none=>none
  |some .done=>match p with | none=>some (.met w,lg,st+1) | some _=>none
  |some .abort=>match p with | none=>some (.over w,lg,st+1) | some _=>none
  |some o=>match ke s o w h lg with
   |none=>none
   |some (true,w,h,lg)=>fQ s os lim n p w h lg (st+1)
   |some (false,w',h,lg)=>match h with
    | .emp=>match p with | none=>some (.failed w',lg,st+1) | some _=>none
    | .opq=>none
    | .top .fen=>match p with | none=>some (.over w',lg,st+1) | some _=>none
    | .top (.suc w2)=>fQ s os lim n (some (first p w')) w2 .opq lg (st+1)
/-! how it lies in the cells -/
def nmR(r:Nat):List Str->V
 |[]=>.none
 |s::l=>.tup [nmR r l,.tup [.obj r,.str true s]]
def trR:List Nat->V
 |[]=>.none
 |m::l=>.tup [trR l,.int true (m:Int)]
abbrev iW(or pc at_ nm mk:V):O:=.inst 436 [(dY,or),(o0,pc),(dW,at_),(dq,nm),(iJ,mk),(nj,.none)]
def fH(r o:Nat)(w:Wy):O:=iW (.obj o) (.int true (w.pc:Int)) (.int true (w.at_:Int)) (nmR r w.nm) (trR w.ms)
def Bp:O:=iW .none (.int true 0) (.int true 0) .none .none
def Cd(r o:Nat):Ht->O
 | .fen=>Bp
 | .suc w=>fH r o w
abbrev cX(lim st:Int):O:=.inst 576 [(gw,.obj 2),(dK,.int true lim),(fS,.obj 3),(gL,.int true st),(eP,.obj 4)]
def dG(lim st:Nat):O:=cX (lim:Int) (st:Int)
def cY:O:=.inst 196 [(du,.str true su),(g8,.none),(iS,.str false sK)]
abbrev Ci(s:Str):O:=.inst 513 [(cS,.str true s),(dt,.obj 1),(gZ,.obj 6)]
def valO:List LE->O
 |[]=>.dict []
 |_::_=>.dict [sK]
def dz(lg:List LE):O:=.list true (lg.map d4)
def nT(os:List fz):O:=.list true (os.map (ordV 0))
theorem RV.nmR{f:Nat->Option Nat}{r r':Nat}(h:f r=some r'):∀l:List Str,RV f (nmR r l) (nmR r' l)
 |[]=>.n
 |_::l=>.t (.k (RV.nmR h l) (.k (.t (.k (.o h) (.k .s .z))) .z))
theorem RV.trR{f:Nat->Option Nat}:∀l:List Nat,RV f (trR l) (trR l)
 |[]=>.n
 |_::l=>.t (.k (RV.trR l) (.k .i .z))
section
variable{f:Nat->Option Nat} {r r':Nat}
theorem RO.way{o o':Nat}(h:f r=some r')(k:f o=some o')(w:Wy):RO f (fH r o w) (fH r' o' w):=
 .x (.k (.o k) (.k .i (.k .i (.k (.nmR h _) (.k (.trR _) (.k .n .z))))))
theorem RO.fen:RO f Bp Bp:=.x (.k .n (.k .i (.k .i (.k .n (.k .n (.k .n .z))))))
theorem RO.top{o o':Nat}(h:f r=some r')(k:f o=some o')(t:Ht):RO f (Cd r o t) (Cd r' o' t):=by
 cases t with
 |fen=>exact .fen
 |suc w=>exact .way h k w
theorem RO.host{lim st:Nat}(h2:f 2=some 2)(h3:f 3=some 3)(h4:f 4=some 4):RO f (dG lim st) (dG lim st):=
 .x (.k (.o h2) (.k .i (.k (.o h3) (.k .i (.k (.o h4) .z)))))
theorem RO.ref:RO f cY cY:=.x (.k .s (.k .n (.k .s .z)))
theorem RO.mat{s:Str}(h1:f 1=some 1)(h6:f 6=some 6):RO f (Ci s) (Ci s):=.x (.k .s (.k (.o h1) (.k (.o h6) .z)))
theorem RO.valO(lg:List LE):RO f (valO lg) (valO lg):=by cases lg<;>exact .d
theorem RO.log(lg:List LE):RO f (dz lg) (dz lg):=.l (.les _)
theorem RV.ord(h:f r=some r')(o:fz):RV f (ordV r o) (ordV r' o):=by
 refine .t (.k .s ?_);cases o with
 |one o=>cases o<;>exact .k .s (.k (by first | exact .s | exact .i) .z)
 |_=>first | exact .z | exact .k (.o h) .z
theorem RVs.ordTl(h:f r=some r')(o:fz):RVs f (ordTl r o) (ordTl r' o):=by
 cases o with
 |one o=>cases o<;>exact .k .s (.k (by first | exact .s | exact .i) .z)
 |_=>first | exact .z | exact .k (.o h) .z
theorem RV.ordW(h:f r=some r')(o:fz):RV f (ordV r o) (ordW r' o):=.t (.k .s (.ordTl h o))
theorem RO.ord(h:f 0=some 0)(os:List fz):RO f (nT os) (nT os):=.l (.map' os λo I=>.ord h o)
def cells(lim st:Nat)(lg:List LE)(s:Str)(hi:O)(os:List fz):List O:=[cY,dG lim st,valO lg,.list true [],dz lg,Ci s,hi,nT os]
def iL:fz->Bool
 | .fence=>true
 | .succeed=>true
 |_=>false
def mJ(w:Wy):fz->Ht
 | .succeed=>.suc w
 |_=>.fen
end
end
abbrev pT(q:Fl×St):Fl×List O×List Prop:=(q.1,q.2.os,q.2.cs)
abbrev qD(q:V×St):V×List O×List Prop:=(q.1,q.2.os,q.2.cs)
abbrev Ao(q:St):List O×List Prop:=(q.os,q.cs)
section
variable{c:Cx} {k fi:Nat} {σ I':List O} {J XP:List O->Prop} {orc orc':Nat->Bool} {EI:eW} {rz:Prop} {bd:List MS} {ch:List Ch} {cs:List Prop} {NP:Fl->List O->Prop}
theorem dg.absorb{i:Nat}{v1 v2:V}{u':List Value}{g:Nat->Option Nat}(hi:nth σ i=some (.stk [v1,v2] u'))
  (T:∀x,dg c k g (setN σ i (.stk [v1] (u'++[x]))) J):dg c k g σ J:=λρ h R=>by
 obtain⟨a,ha,z',n,e1,e2⟩:=R.cell hi;obtain⟨x2,l,rfl,r2,x1,l1,rfl,r1,rfl⟩:∃x xs,z'=x::xs/\dH ρ h v2 x/\∃y ys,xs=y::ys/\dH ρ h v1 y/\ys=[]:=e2;have R':c.R ρ (setN σ i (.stk [v1] (u'++[x2]))) h:=kB.set R ha hi rfl (λb x e I=>e) ⟨[x1],n,by rw[aw];exact e1,x1,[],rfl,r1,rfl⟩;have ft:∀x∈dA ρ (setN σ i (.stk [v1] (u'++[x2]))),x∈dA ρ σ:=λx m=>by
  obtain⟨j,b,q,f1,f2,m⟩:=dC.mp m;rcases pG f2 with⟨rfl,rfl⟩ | ⟨_,e⟩
  .exact dC.mpr ⟨_,b,_,f1,hi,m⟩
  .exact dC.mpr ⟨j,b,q,f1,e,m⟩
 have fr:∀j m,nth σ j=some (.frame m)->nth (setN σ i (.stk [v1] (u'++[x2]))) j=some (.frame m):=λj m e=>by
  rw[j9 _ _ (λz=>by subst z;rw[hi] at e;cases e)];exact e
 obtain⟨ρ',σ',a1,a2,a3,a4,a5,a6,a7⟩:=T x2 ρ h R';exact⟨ρ',σ',a1,a2,λx m=>ft x (a3 x m),a4,a5,λj m l e=>a6 j m l (fr j m e),λx m j q e1 e2=>a7 x m j q e1 (fr j q e2)⟩
theorem pB{r n:Nat}{fl:Fl}(h:Option.map pT ((ev (Bo c r orc).P n).ss bd fi ⟨σ,ch,[]⟩)=some (fl,I',cs))(hc:jv cs)(T:∃g,dg c k g I' J)
  (hfl:fl= .next\/fl= .cont:=by walk_at "f"):iE c r orc orc' EI rz n k bd fi σ NP XP J:=by
 obtain⟨⟨f,st⟩,e1,e2⟩:=aq.mp h;obtain⟨rfl,rfl,rfl⟩:f=fl/\st.os=I'/\st.cs=cs:=by simpa only[bc] using e2
 refine .inl ⟨ch,f,st,e1,gh hc,?_⟩;rcases hfl with rfl | rfl<;>exact T
theorem vn{r n:Nat}{v w:V}{g:Nat->Option Nat}(h:Option.map pT ((ev (Bo c r orc).P n).ss bd fi ⟨σ,ch,[]⟩)=some (.ret v,I',cs))(hc:jv cs)(rv:RV g v w)(T:dg c k g I' (NP (.ret w))):
  iE c r orc orc' EI rz n k bd fi σ NP XP J:=by
 obtain⟨⟨f,st⟩,e1,e2⟩:=aq.mp h;obtain⟨rfl,rfl,rfl⟩:f= .ret v/\st.os=I'/\st.cs=cs:=by simpa only[bc] using e2
 exact .inl ⟨ch,.ret v,st,e1,gh hc,g,w,rv,T⟩
theorem Cr{r n:Nat}(hz:rz)(h:Option.map Ao ((tP (Bo c r orc).P (Fs c r EI orc') n).ss bd fi ⟨σ,ch,[]⟩)=some (I',cs))(hc:jv cs)(T:∃g,dg c k g I' XP):
  iE c r orc orc' EI rz n k bd fi σ NP XP J:=by
 obtain⟨st,e1,e2⟩:=aq.mp h;obtain⟨rfl,rfl⟩:st.os=I'/\st.cs=cs:=by simpa only[bc] using e2
 exact .inr ⟨hz,ch,st,e1,gh hc,T⟩
theorem dL.entry{m:MS}{os H':List O}{g:Nat->Option Nat}(T:dg c os.length g os (·=H'))(L:dL c EI rz m fi H' NP XP):dL c EI rz m fi os NP XP:=
 λA env x s ρ l Q E rm en ck R ad pe fr q qx=>by
  obtain⟨ρ',σ',rfl,r,_⟩:=eR.tell (c:=c) (eR.refl R) T (ao _) R.len;exact L A env x s ρ' l Q E rm (en.grow r.grow) ck r.rel (eB.trans ad r.grow) pe (λz=>(fr z).res (c:=c) r) (λρ1 s1 fl N1 σ1 j r1 v1=>q ρ1 s1 fl N1 σ1 j (r.trans r1) v1) (λz ρ1 s1 a σ1 j x=>qx z ρ1 s1 a σ1 j (d9.after (c:=c) r x))
theorem dg.to{l:List Nat}{H':List O}(hJ:J H')(e:l.map (nth σ ·)=I'.map some)(R:ROs (fb l) I' H')(nd:l.Nodup:=by decide)(keep:kj l 0 k:=by rfl):dg c k (fb l) σ J:=
 (dg.sel e nd (fj keep) R).mono (ao _) λσ' e=>by subst e;exact hJ
end
def vG(lim st:Int)(D:O)(lg:List V)(s:Str)(top:List V)(u':List Value)(Or:O)(W:O):List O:=[cY,cX lim st,D,.list true [],.list true lg,Ci s,.stk top u',Or,W]
def nA(n:Nat):Hs->List V
 | .top _=>[.obj n]
 |_=>[]
def lX:Hs->List O
 | .top t=>[Cd 0 7 t]
 |_=>[]
def C9:Hs->List Nat
 | .top _=>[0,1,2,3,4,5,6,7,8,9]
 |_=>[0,1,2,3,4,5,6,7,8]
abbrev nH(h:Hs):Nat:=(lX h).length
theorem ROs.hs{f:Nat->Option Nat}(h0:f 0=some 0)(h7:f 7=some 7){h:Hs}{tl tl':List O}(k:ROs f tl tl'):ROs f (lX h++tl) (lX h++tl'):=by
 cases h with
 |top t=>exact .k (.top h0 h7 t) k
 |_=>exact k
theorem ROs.hs1{f:Nat->Option Nat}(h0:f 0=some 0)(h7:f 7=some 7){h:Hs}:ROs f (lX h) (lX h):=by
 cases h with
 |top t=>exact .k (.top h0 h7 t) .z
 |_=>exact .z
theorem RVs.hs{f:Nat->Option Nat}{n m:Nat}{h:Hs}(k:∀t,h= .top t->f n=some m):RVs f (nA n h) (nA m h):=by
 cases h with
 |top t=>exact .k (.o (k t rfl)) .z
 |_=>exact .z
theorem qZ(t:List Nat):∀i,i<8->fb (0::1::2::3::4::5::6::7::t) i=some i:=λI h=>
 up8 (P:=λi=>fb (0::1::2::3::4::5::6::7::t) i=some i) h rfl rfl rfl rfl rfl rfl rfl rfl
theorem jW{l:List Nat}(h:decide l.Nodup):l.Nodup:=aS h
section
variable(sp:jC) (sl:jz) (r:Nat) (lim st:Int) (s:Str) (u':List Value) (Or:O) (h:Hs)
abbrev xR(D D':O)(lg G':List V)(pc a:Int)(nm mk:V)(pc' a':Int)(nm' mk' o:V)(ch:List Ch)(ok:Bool)(cs:List Prop):Prop:=
 Option.map (out (C9 h)) (LK sp sl r [] 40 475 [.obj 5,o,.obj 8] ⟨vG lim st D lg s (nA 9 h) u' Or (iW (.obj 7) (.int true pc) (.int true a) nm mk)++lX h,ch,[]⟩)=some (V.bool ok,.map some (vG lim st D' G' s (nA 9 h) u' Or (iW (.obj 7) (.int true pc') (.int true a') nm' mk')++lX h),cs)
abbrev LQ(D:O)(lg:List V)(pc a:Int)(nm mk:V)(n:Nat)(o:V)(W:O):Prop:=
 Option.map (out (C9 h++[n])) (LK sp sl r [] 40 475 [.obj 5,o,.obj 8] ⟨vG lim st D lg s (nA 9 h) u' Or (iW (.obj 7) (.int true pc) (.int true a) nm mk)++lX h,[],[]⟩)=some (V.bool true,.map some (vG lim st D lg s (.obj n::nA 9 h) u' Or (iW (.obj 7) (.int true (pc+1)) (.int true a) nm mk)++(lX h++[W])),[u'.length+(nA 9 h).length<2^20])
variable(D:O) (lg:List V) (pc a:Int) (nm mk:V)
theorem Es(t:Str):xR sp sl r lim st s u' Or h D D lg lg pc a nm mk (pc+1) (a+t.length) nm mk (.tup [.str false mj,.str false dM,.str true t]) [.b true] true [decide (Txt.slice s (some a) (some (a+t.length))=t)=true,s.length<=sizeLine,t.length<2^20]:=by cases h<;>walk_at"k"
theorem Dr(t:Str):xR sp sl r lim st s u' Or h D D lg lg pc a nm mk pc a nm mk (.tup [.str false mj,.str false dM,.str true t]) [.b false] false [decide (Txt.slice s (some a) (some (a+t.length))=t)=false,s.length<=sizeLine,t.length<2^20]:=by cases h<;>walk_at"k"
theorem De(n:Int):xR sp sl r lim st s u' Or h D D lg lg pc a nm mk (pc+1) (a+n) nm mk (.tup [.str false mj,.str false jr,.int true n]) [.b true] true [decide (a+n<=s.length)=true,s.length<2^20]:=by cases h<;>walk_at"k"
theorem ED(n:Int):xR sp sl r lim st s u' Or h D D lg lg pc a nm mk pc a nm mk (.tup [.str false mj,.str false jr,.int true n]) [.b false] false [decide (a+n<=s.length)=false,s.length<2^20]:=by cases h<;>walk_at"k"
theorem Ej:xR sp sl r lim st s u' Or h D D lg lg pc a nm mk (pc+1) (a+1) nm mk (.tup [.str false mj,.str false kT,.str true lU]) [.b true,.b true] true [Txt.contains lU ⟨#[s.cps.getD a.toNat 0]⟩=true,0<=a/\a<s.length/\a<2^62,decide (a<s.length)=true,s.length<2^20]:=by cases h<;>walk_at"k"
theorem Ds:xR sp sl r lim st s u' Or h D D lg lg pc a nm mk pc a nm mk (.tup [.str false mj,.str false kT,.str true lU]) [.b true,.b false] false [Txt.contains lU ⟨#[s.cps.getD a.toNat 0]⟩=false,0<=a/\a<s.length/\a<2^62,decide (a<s.length)=true,s.length<2^20]:=by cases h<;>walk_at"k"
theorem Bn:xR sp sl r lim st s u' Or h D D lg lg pc a nm mk pc a nm mk (.tup [.str false mj,.str false kT,.str true lU]) [.b false] false [decide (a<s.length)=false,s.length<2^20]:=by cases h<;>walk_at"k"
theorem JH:xR sp sl r lim st s u' Or h D D lg lg pc a nm mk pc a nm mk (.tup [.str false mG]) [] false []:=by cases h<;>walk_at"k"
theorem Ik:xR sp sl r lim st s u' Or h D D lg lg pc a nm mk (pc+1) a nm (.tup [mk,.int true a]) (.tup [.str false Ic]) [] true []:=by cases h<;>walk_at"k"
theorem Ja(m:Int):xR sp sl r lim st s u' Or h D D lg lg pc a nm (.tup [mk,.int true m]) (pc+1) a (.tup [nm,.tup [.obj 0,.str true (Txt.slice s (some m) (some a))]]) mk (.tup [.str false HE,.obj 0]) [] true [s.length<=sizeLine]:=by cases h<;>walk_at"k"
theorem Iz(m:Int):xR sp sl r lim st s u' Or h (.dict []) (.dict [sK]) lg (lg++[.tup [.str false sK,.str true (Txt.slice s (some m) (some a))]]) pc a nm (.tup [mk,.int true m]) (pc+1) a nm mk (.tup [.str false IF,.obj 0]) [] true [lg.length<2^20,s.length<=sizeLine]:=by cases h<;>walk_at"k"
theorem Il(m:Int):xR sp sl r lim st s u' Or h (.dict [sK]) (.dict [sK]) lg (lg++[.tup [.str false sK,.str true (Txt.slice s (some m) (some a))]]) pc a nm (.tup [mk,.int true m]) (pc+1) a nm mk (.tup [.str false IF,.obj 0]) [] true [lg.length<2^20,sK=sK,s.length<=sizeLine]:=by cases h<;>walk_at"k"
theorem Df:xR sp sl r lim st s u' Or h (.dict []) (.dict [sK]) lg (lg++[.tup [.str false sK,.int true a]]) pc a nm mk (pc+1) a nm mk (.tup [.str false za,.obj 0]) [] true [lg.length<2^20]:=by cases h<;>walk_at"k"
theorem CO:xR sp sl r lim st s u' Or h (.dict [sK]) (.dict [sK]) lg (lg++[.tup [.str false sK,.int true a]]) pc a nm mk (pc+1) a nm mk (.tup [.str false za,.obj 0]) [] true [lg.length<2^20,sK=sK]:=by cases h<;>walk_at"k"
theorem Ge:LQ sp sl r lim st s u' Or h D lg pc a nm mk (11+nH h) (.tup [.str false iv]) (iW .none (.int false 0) (.int false 0) .none .none):=by cases h<;>walk_at"k"
theorem Im:LQ sp sl r lim st s u' Or h D lg pc a nm mk (12+nH h) (.tup [.str false gz]) (iW (.obj 7) (.int true pc) (.int true a) nm mk):=by cases h<;>walk_at"k"
end
nonrec theorem dn{b:Bs}{lim st:Nat}{s:Str}{os:List fz}{w w':Wy}{lg G':List LE}{u':List Value}{D':O}{L':List V}{nm' mk' o:V}{ch:List Ch}{ok:Bool}{cs:List Prop}(G:dI b){h:Hs}
  (e:xR (Ct b 0) (Lt b 0) 0 lim st s u' (nT os) h (valO lg) D' (lg.map d4) L' w.pc w.at_ (nmR 0 w.nm) (trR w.ms) w'.pc w'.at_ nm' mk' o ch ok cs) (hc:jv cs) (hD:∀f,RO f D' (valO G')) (hL:∀f,RVs f L' (G'.map d4)) (hN:∀f:Nat->Option Nat,f 0=some 0->RV f nm' (nmR 0 w'.nm)) (hM:∀f,RV f mk' (trR w'.ms)):
  Ct b 40 475 [.obj 5,o,.obj 8] (cells lim st lg s (.stk (nA 9 h) u') os++(fH 0 7 w::lX h)) (.bool ok) (cells lim st G' s (.stk (nA 9 h) u') os++(fH 0 7 w'::lX h)):=by
 have z:∀i,i<8->fb (C9 h) i=some i:=by cases h<;>exact qZ _
 have z9:∀t,h= .top t->fb (C9 h) 9=some 9:=λt e=>by rw[e];rfl
 have hX:ROs (fb (C9 h)) (lX h) (lX h):=.hs1 (z 0 ()) (z 7 ());exact dF G (r:=0) (n:=40) (l₀:=[]) (C9 h) e hc (.k .ref (.k (.host (z 2 ()) (z 3 ()) (z 4 ())) (.k (hD _) (.k (.l .z) (.k (.l (hL _)) (.k (.mat (z 1 ()) (z 6 ())) (.k (.y (.hs z9)) (.k (.ord (z 0 ()) os) (.k (RO.x (.k (.o (z 7 ())) (.k .i (.k .i (.k (hN _ (z 0 ())) (.k (hM _) (.k .n .z))))))) hX))))))))) .b (nd:=jW (by cases h<;>rfl)) (keep:=by cases h<;>rfl)
theorem HU{b:Bs}{lim st:Nat}{s:Str}{os:List fz}{w:Wy}{pc' a':Nat}{lg:List LE}{u':List Value}{o:V}{ch:List Ch}{ok:Bool}{cs:List Prop}(G:dI b){h:Hs}
  (e:xR (Ct b 0) (Lt b 0) 0 lim st s u' (nT os) h (valO lg) (valO lg) (lg.map d4) (lg.map d4) w.pc w.at_ (nmR 0 w.nm) (trR w.ms) pc' a' (nmR 0 w.nm) (trR w.ms) o ch ok cs) (hc:jv cs):
  Ct b 40 475 [.obj 5,o,.obj 8] (cells lim st lg s (.stk (nA 9 h) u') os++(fH 0 7 w::lX h)) (.bool ok) (cells lim st lg s (.stk (nA 9 h) u') os++(fH 0 7 ⟨pc',a',w.nm,w.ms⟩::lX h)):=
 dn (w':=⟨pc',a',w.nm,w.ms⟩) G e hc (λI=>.valO lg) (λI=>.les lg) (λI h=>.nmR h _) (λI=>.trR _)
theorem Ix{b:Bs}{lim st:Nat}{s:Str}{os:List fz}{w:Wy}{lg:List LE}{u':List Value}(G:dI b)(hs:s.length<=8)(ha:w.at_<=s.length)(hl:lg.length<2^20)(ht:∀t,nth os w.pc=some (.one (.txt t))->t.length<2^20){o:fz}(ho:nth os w.pc=some o)(np:iL o=false){h h':Hs}{ok:Bool}{w':Wy}{G':List LE}(e:ke s o w h lg=some (ok,w',h',G')):
  Ct b 40 475 [.obj 5,ordW 0 o,.obj 8] (cells lim st lg s (.stk (nA 9 h) u') os++(fH 0 7 w::lX h)) (.bool ok) (cells lim st G' s (.stk (nA 9 h) u') os++(fH 0 7 w'::lX h)):=by
 have hb:=dv;have hs':s.length<=sizeLine:=by omega
 have hs2:s.length<2^20:=by omega
 have hl':(lg.map d4).length<2^20:=by rw[af];exact hl
 cases o with
 |one q=>
  have e:(match eE s w.at_ q with
   |some e=>some (true,⟨w.pc+1,e,w.nm,w.ms⟩,h,lg)
   |none=>some (false,w,h,lg))=some (ok,w',h',G'):=e
  cases q with
  |txt t=>
   have ht:=ht t ho;have e:(match(if cut s w.at_ (w.at_+t.length)=t then some (w.at_+t.length) else none) with
    |some e=>some (true,⟨w.pc+1,e,w.nm,w.ms⟩,h,lg)
    |none=>some (false,w,h,lg))=some (ok,w',h',G'):=e
   by_cases c:cut s w.at_ (w.at_+t.length)=t
   .rw[if_pos c] at e
    refine p6 e ?_;exact HU G (Es ..) ⟨av c,hs',ht,N4⟩
   .rw[if_neg c] at e
    refine p6 e ?_;exact HU G (Dr ..) ⟨ag c,hs',ht,N4⟩
  |len n=>
   have e:(match(if w.at_+n<=s.length then some (w.at_+n) else none) with
    |some e=>some (true,⟨w.pc+1,e,w.nm,w.ms⟩,h,lg)
    |none=>some (false,w,h,lg))=some (ok,w',h',G'):=e
   by_cases c:w.at_+n<=s.length
   .rw[if_pos c] at e
    refine p6 e ?_;exact HU G (De (n:=n) ..) ⟨av (Int.ofNat_le.mpr c),hs2,N4⟩
   .rw[if_neg c] at e
    refine p6 e ?_;exact HU G (ED (n:=n) ..) ⟨ag λz=>c (Int.ofNat_le.mp z),hs2,N4⟩
  |any=>
   have e:(match(if w.at_<s.length then(match Txt.contains lU (gH s w.at_) with | true=>some (w.at_+1) | false=>none) else none) with
    |some e=>some (true,⟨w.pc+1,e,w.nm,w.ms⟩,h,lg)
    |none=>some (false,w,h,lg))=some (ok,w',h',G'):=e
   by_cases c:w.at_<s.length
   .rw[if_pos c] at e
    have k:(0:Int)<=w.at_/\(w.at_:Int)<s.length/\(w.at_:Int)<2^62:=⟨Int.natCast_nonneg _,bX.mpr c,by omega⟩
    cases c2:Txt.contains lU (gH s w.at_) with
    |true=>
     rw[c2] at e;refine p6 e ?_;exact HU G (Ej ..) ⟨c2,k,av k.2.1,hs2,N4⟩
    |false=>
     rw[c2] at e;refine p6 e ?_;exact HU G (Ds ..) ⟨c2,k,av k.2.1,hs2,N4⟩
   .rw[if_neg c] at e
    refine p6 e ?_;exact HU G (Bn ..) ⟨ag λz=>c (bX.mp z),hs2,N4⟩
 |fence=>cases np
 |succeed=>cases np
 |abort=>cases e
 |done=>cases e
 |fail=>
  refine p6 e ?_;exact HU G (JH ..) trivial
 |mark=>
  refine p6 e ?_;exact dn (w':=⟨w.pc+1,w.at_,w.nm,w.at_::w.ms⟩) G (Ik ..) trivial (λI=>.valO lg) (λI=>.les lg) (λI h=>.nmR h _) (λI=>.trR (w.at_::w.ms))
 |name=>
  obtain⟨pc,a,nm,ms⟩:=w;cases ms with
  |nil=>cases e
  |cons m ms=>
   refine p6 e ?_;exact dn (w:=⟨pc,a,nm,m::ms⟩) (w':=⟨pc+1,a,cut s m a::nm,ms⟩) G (Ja (m:=m) ..) ⟨hs',N4⟩ (λI=>.valO lg) (λI=>.les lg) (λI h=>.nmR h (cut s m a::nm)) (λI=>.trR ms)
 |set=>
  obtain⟨pc,a,nm,ms⟩:=w;cases ms with
  |nil=>cases e
  |cons m ms=>
   refine p6 e ?_;cases lg with
   |nil=>exact dn (w:=⟨pc,a,nm,m::ms⟩) (w':=⟨pc+1,a,nm,ms⟩) G (Iz (m:=m) ..) ⟨hl',hs',N4⟩ (λI=>.d) (λI=>.les [.tx (cut s m a)]) (λI h=>.nmR h _) (λI=>.trR _)
   |cons q lg=>exact dn (w:=⟨pc,a,nm,m::ms⟩) (w':=⟨pc+1,a,nm,ms⟩) G (Il (m:=m) ..) ⟨hl',rfl,hs',N4⟩ (λI=>.d) (λI=>.snoc (l:=q::lg) (x:=LE.tx (cut s m a)) (.les _) (.le (LE.tx (cut s m a)))) (λI h=>.nmR h _) (λI=>.trR _)
 |place=>
  refine p6 e ?_;cases lg with
  |nil=>exact dn (w':=⟨w.pc+1,w.at_,w.nm,w.ms⟩) G (Df ..) ⟨hl',N4⟩ (λI=>.d) (λI=>.les [.at w.at_]) (λI h=>.nmR h _) (λI=>.trR _)
  |cons q lg=>exact dn (w':=⟨w.pc+1,w.at_,w.nm,w.ms⟩) G (CO ..) ⟨hl',rfl,N4⟩ (λI=>.d) (λI=>.snoc (l:=q::lg) (x:=LE.at w.at_) (.les _) (.le (LE.at w.at_))) (λI h=>.nmR h _) (λI=>.trR _)
nonrec theorem I2{b:Bs}{lim st:Nat}{s:Str}{os:List fz}{w:Wy}{lg:List LE}{u':List Value}(G:dI b){h:Hs}(hr:u'.length+(nA 9 h).length<2^20){o:fz}(np:iL o):
  Ct b 40 475 [.obj 5,ordW 0 o,.obj 8] (cells lim st lg s (.stk (nA 9 h) u') os++(fH 0 7 w::lX h)) (.bool true) (cells lim st lg s (.stk (.obj (9+nH h)::nA 9 h) u') os++(fH 0 7 ⟨w.pc+1,w.at_,w.nm,w.ms⟩::(lX h++[Cd 0 7 (mJ w o)]))):=by
 have go:∀{n:Nat} {W X:O} {v:V},LQ (Ct b 0) (Lt b 0) 0 lim st s u' (nT os) h (valO lg) (lg.map d4) w.pc w.at_ (nmR 0 w.nm) (trR w.ms) n v W->(C9 h++[n]).Nodup->fb (C9 h++[n]) n=some (9+nH h)->(∀f:Nat->Option Nat,f 0=some 0->f 7=some 7->RO f W X)->Ct b 40 475 [.obj 5,v,.obj 8] (cells lim st lg s (.stk (nA 9 h) u') os++(fH 0 7 w::lX h)) (.bool true) (cells lim st lg s (.stk (.obj (9+nH h)::nA 9 h) u') os++(fH 0 7 ⟨w.pc+1,w.at_,w.nm,w.ms⟩::(lX h++[X]))):=λ{n W X v} e nd hn hW=>by
  have z:∀i,i<8->fb (C9 h++[n]) i=some i:=by cases h<;>exact qZ _
  have z9:∀t,h= .top t->fb (C9 h++[n]) 9=some 9:=λt e=>by rw[e];rfl
  exact dF G (r:=0) (n:=40) (l₀:=[]) (C9 h++[n]) e ⟨hr,N4⟩ (.k .ref (.k (.host (z 2 ()) (z 3 ()) (z 4 ())) (.k (.valO lg) (.k (.l .z) (.k (.log lg) (.k (.mat (z 1 ()) (z 6 ())) (.k (.y (.k (.o hn) (.hs z9))) (.k (.ord (z 0 ()) os) (.k (.way (z 0 ()) (z 7 ()) ⟨w.pc+1,w.at_,w.nm,w.ms⟩) (.hs (z 0 ()) (z 7 ()) (.k (hW _ (z 0 ()) (z 7 ())) .z))))))))))) .b (nd:=nd) (keep:=by cases h<;>rfl)
 cases o with
 |fence=>exact go (Ge ..) (jW (by cases h<;>rfl)) (by cases h<;>rfl) λI I I=>.fen
 |succeed=>exact go (Im ..) (jW (by cases h<;>rfl)) (by cases h<;>rfl) λI h0 h7=>.way h0 h7 w
 |_=>cases np
section
set_option tactic.hygienic true
set_option backward.match.sparseCases false
def iP(w:V)(bg:Int):List (Nm×V):=[(cV,.obj 5),(dY,.obj 7),(dB,.int true bg),(dQ,w)]
def gU(w:V)(bg:Int)(x:V):List (Nm×V):=[(cV,.obj 5),(dY,.obj 7),(dB,.int true bg),(dQ,w),(dS,x)]
def iR(H D L Hi:O)(s:Str)(xs:List V)(fr:List (Nm×V))(tl:List O):List O:=[cY,H,D,.list true [],L,Ci s,Hi,.list true xs,.frame fr]++tl
def nP:Option Wy->Nat
 |none=>0
 |some _=>1
def yz:Option Wy->List O
 |none=>[]
 |some v=>[fH 0 7 v]
theorem IX(sp:jC)(sl:jz)(r:Nat)(lim st:Int)(D L:O):TC sp sl r [0,1,2,3,4] [] 20 573 [.obj 1] ⟨[cY,cX lim st,D,.list true [],L],[.b false],[]⟩ .none [cY,cX lim ((st+1)),D,.list true [],L] [decide (lim<st+1)=false]:=by
 walk_at"k"
section
variable(sp:jC) (sl:jz) (r:Nat) (lim bg:Int) (D L Hi:O) (s:Str) (xs:List V) (p:Option Wy) (pc a:Int) (nm mk:V) (tl:List O) (st:Int) (wd:Str) (xt:List V)
abbrev sR(st:Int)(fr:List (Nm×V)):List O:=iR (cX lim st) D L Hi s xs fr (yz p++iW (.obj 7) (.int true pc) (.int true a) nm mk::tl)
abbrev JV(ch:List Ch)(fl:Fl)(os:List O)(cs:List Prop):Prop:=
 Option.map pT (ML sp sl r [573,475] 30 (d0 iK) 8 ⟨sR lim D L Hi s xs p pc a nm mk tl st (iP (.obj (9+nP p)) bg),.k .none (sR lim D L Hi s xs p pc a nm mk tl (st+1) (iP (.obj (9+nP p)) bg)):: .v (.tup (.str true wd::xt))::ch,[]⟩)=some (fl,os,cs++[0<=pc/\pc<2^62/\nth xs pc.toNat=some (V.tup (V.str true wd::xt)),sp 573 [V.obj 1] (sR lim D L Hi s xs p pc a nm mk tl st (iP (.obj (9+nP p)) bg)) V.none (sR lim D L Hi s xs p pc a nm mk tl (st+1) (iP (.obj (9+nP p)) bg))])
abbrev G8(c:Bool)(os:List O):List Prop:=[sp 475 [V.obj 5,V.tup (V.str true wd::xt),V.obj (9+nP p)] (sR lim D L Hi s xs p pc a nm mk tl (st+1) (gU (.obj (9+nP p)) bg (.tup (.str true wd::xt)))) (V.bool c) os,decide (wd=S [97,98,111,114,116])=false,decide (wd=S [100,111,110,101])=false]
theorem Dm(I':List O):JV sp sl r lim bg D L Hi s xs p pc a nm mk tl st wd xt [.b false,.b false,.k (.bool true) I'] .next I' (G8 sp lim bg D L Hi s xs p pc a nm mk tl st wd xt true I'):=by cases p<;>walk_at"k"
theorem KH:JV sp sl r lim bg D L Hi s xs p pc a nm mk tl st wd xt [.b true] (.ret (.tup [.int false 0,.obj (9+nP p)])) (sR lim D L Hi s xs p pc a nm mk tl (st+1) (gU (.obj (9+nP p)) bg (.tup (.str true wd::xt)))) [decide (wd=S [100,111,110,101])=true]:=by cases p<;>walk_at"k"
theorem Fn:JV sp sl r lim bg D L Hi s xs p pc a nm mk tl st wd xt [.b false,.b true] (.ret (.tup [.int false 2,.none])) (sR lim D L Hi s xs p pc a nm mk tl (st+1) (gU (.obj (9+nP p)) bg (.tup (.str true wd::xt)))) [decide (wd=S [97,98,111,114,116])=true,decide (wd=S [100,111,110,101])=false]:=by cases p<;>walk_at"k"
variable(H1 D1 L1 W1:O) (u':List Value)
theorem Lm:JV sp sl r lim bg D L Hi s xs none pc a nm mk tl st wd xt [.b false,.b false,.k (.bool false) (iR H1 D1 L1 (.stk [] []) s xs (gU (.obj 9) bg (.tup (.str true wd::xt))) [W1]),.b false] .next (iR H1 D1 L1 (.stk [] []) s xs (gU .none bg (.tup (.str true wd::xt))) [W1,.frame [(10,.obj 5)]]) ([decide ((0:Int)<↑((0:Nat)+(0:Nat)))=false,(0:Nat)+(0:Nat)<2^62]++G8 sp lim bg D L Hi s xs none pc a nm mk tl st wd xt false (iR H1 D1 L1 (.stk [] []) s xs (gU (.obj 9) bg (.tup (.str true wd::xt))) [W1])):=by walk_at"k"
theorem KZ:JV sp sl r lim bg D L Hi s xs none pc a nm mk tl st wd xt [.b false,.b false,.k (.bool false) (iR H1 D1 L1 (.stk [.obj 10] u') s xs (gU (.obj 9) bg (.tup (.str true wd::xt))) [W1,Bp]),.b true] (.ret (.tup [.int false 2,.none])) (iR H1 D1 L1 (.stk [] u') s xs (gU (.obj 10) bg (.tup (.str true wd::xt))) [W1,Bp,.frame [(10,.obj 5)]]) ([u'.length+1<2^20,decide ((0:Int)<↑(u'.length+1))=true,u'.length+1<2^62]++G8 sp lim bg D L Hi s xs none pc a nm mk tl st wd xt false (iR H1 D1 L1 (.stk [.obj 10] u') s xs (gU (.obj 9) bg (.tup (.str true wd::xt))) [W1,Bp])):=by walk_at"k"
theorem JO(p2 a2 nm2 mk2:V):JV sp sl r lim bg D L Hi s xs p pc a nm mk tl st wd xt [.b false,.b false,.k (.bool false) (iR H1 D1 L1 (.stk [.obj (10+nP p)] u') s xs (gU (.obj (9+nP p)) bg (.tup (.str true wd::xt))) (yz p++[W1,iW (.obj 7) p2 a2 nm2 mk2])),.b true] .next (iR H1 D1 L1 (.stk [] u') s xs (gU (.obj (10+nP p)) bg (.tup (.str true wd::xt))) (yz p++[W1,iW (.obj 7) p2 a2 nm2 mk2,.frame [(10,.obj 5)]])) ([u'.length+1<2^20,decide ((0:Int)<↑(u'.length+1))=true,u'.length+1<2^62]++G8 sp lim bg D L Hi s xs p pc a nm mk tl st wd xt false (iR H1 D1 L1 (.stk [.obj (10+nP p)] u') s xs (gU (.obj (9+nP p)) bg (.tup (.str true wd::xt))) (yz p++[W1,iW (.obj 7) p2 a2 nm2 mk2]))):=by cases p<;>walk_at"k"
theorem Fz(rsp:uT)(rsl:vi)(I':List O):Option.map Ao ((tP (Pg (fe [573,475]) sp sl r) (Rg (fe [573]) rsp rsl) 30).ss (d0 iK) 8 ⟨sR lim D L Hi s xs p pc a nm mk tl st (iP (.obj (9+nP p)) bg),[.r I'],[]⟩)=some (I',[rsp 573 [V.obj 1] (sR lim D L Hi s xs p pc a nm mk tl st (iP (.obj (9+nP p)) bg)) I']):=by cases p<;>walk_at"k"
end
section
variable{f:Nat->Option Nat} {lim st n:Nat} {lg G':List LE} {s:Str} {os:List fz} {u':List Value} {top top':List V} {tl tl':List O} {fr:List (Nm×V)} {w w':Wy} {bg:Int} {x:iF×List LE×Nat} {o:fz} {h h':Hs} {ok:Bool} {b:Bs} {EI:eW} {p:Option Wy} {rz:Prop}
theorem ROs.cells(h:∀i,i<8->f i=some i)(ht:RVs f top top')(k:ROs f tl tl'):ROs f (cells lim st lg s (.stk top u') os++tl) (cells lim st lg s (.stk top' u') os++tl'):=
 .k .ref (.k (.host (h _ ()) (h _ ()) (h _ ())) (.k (.valO lg) (.k (.l .z) (.k (.log lg) (.k (.mat (h _ ()) (h _ ())) (.k (.y ht) (.k (.ord (h _ ()) os) k)))))))
theorem ROs.runA(h:∀i,i<8->f i=some i)(ht:RVs f top top'){fr':List (Nm×V)}(hf:FrR f fr fr')(k:ROs f tl tl'):
  ROs f (iR (dG lim st) (valO lg) (dz lg) (.stk top u') s (os.map (ordV 0)) fr tl) (iR (dG lim st) (valO lg) (dz lg) (.stk top' u') s (os.map (ordV 0)) fr' tl'):=
 .k .ref (.k (.host (h _ ()) (h _ ()) (h _ ())) (.k (.valO lg) (.k (.l .z) (.k (.log lg) (.k (.mat (h _ ()) (h _ ())) (.k (.y ht) (.k (.ord (h _ ()) os) (.k (.f hf) k))))))))
theorem ROs.runE(h:∀i,i<8->f i=some i)(k:ROs f tl tl'):
  ROs f (iR (dG lim st) (valO lg) (dz lg) (.stk top u') s (os.map (ordV 0)) fr tl) (iR (dG lim st) (valO lg) (dz lg) .any s (os.map (ordV 0)) [] tl'):=
 .k .ref (.k (.host (h _ ()) (h _ ()) (h _ ())) (.k (.valO lg) (.k (.l .z) (.k (.log lg) (.k (.mat (h _ ()) (h _ ())) (.k .stkAny (.k (.ord (h _ ()) os) (.k (.f .z) k))))))))
theorem FrR.run{v w:V}{x:V}(h:∀i,i<8->f i=some i)(hv:RV f v w):FrR f (gU v bg x) (iP w bg):=
 .k rfl (.o (h _ ())) (.k rfl (.o (h _ ())) (.k rfl .i (.k rfl hv .z)))
theorem GC{l:List Nat}{m:Nat}(h:kj l 0 8):∀i,i<8->back l m i=some i:=λi hi=>by unfold back;rw[fj h i hi]
theorem kF{a e:Nat}{q:HV}(ha:a<=s.length)(h:eE s a q=some e):e<=s.length:=by
 cases q with
 |txt t=>
  have h:(if cut s a (a+t.length)=t then some (a+t.length) else none)=some e:=h
  by_cases c:cut s a (a+t.length)=t
  .rw[if_pos c] at h
   have k:=rn s (aA a t.length) ha;rw[c] at k;exact ac h▸o40 ha k
  .rw[if_neg c] at h
   injection h
 |len n=>
  have h:(if a+n<=s.length then some (a+n) else none)=some e:=h
  by_cases c:a+n<=s.length
  .rw[if_pos c] at h
   exact ac h▸c
  .rw[if_neg c] at h
   injection h
 |any=>
  have h:(if a<s.length then(match Txt.contains lU (gH s a) with | true=>some (a+1) | false=>none) else none)=some e:=h
  by_cases c:a<s.length
  .rw[if_pos c] at h
   cases z:Txt.contains lU (gH s a) with
   |true=>rw[z] at h;exact ac h▸c
   |false=>rw[z] at h;injection h
  .rw[if_neg c] at h
   injection h
theorem ny(e:ke s o w h lg=some (ok,w',h',G')):(w.at_<=s.length->w'.at_<=s.length)/\G'.length<=lg.length+1/\w'.nm.length<=w.nm.length+1/\
  (iL o->ok=true/\h'= .top (mJ w o)/\G'=lg/\w'=⟨w.pc+1,w.at_,w.nm,w.ms⟩)/\(iL o=false->h'=h):=by
 cases o with
 |one q=>
  have e:(match eE s w.at_ q with | some e=>some (true,⟨w.pc+1,e,w.nm,w.ms⟩,h,lg) | none=>some (false,w,h,lg))=some (ok,w',h',G'):=e;cases z:eE s w.at_ q with
  |some a=>rw[z] at e;injection e;exact⟨λha=>kF ha z,au _,au _,λz=>q3 z,λI=>rfl⟩
  |none=>rw[z] at e;injection e;exact⟨id,au _,au _,λz=>q3 z,λI=>rfl⟩
 |fence=>injection e;exact⟨id,au _,au _,λI=>⟨rfl,rfl,rfl,rfl⟩,λz=>q2 z⟩
 |succeed=>injection e;exact⟨id,au _,au _,λI=>⟨rfl,rfl,rfl,rfl⟩,λz=>q2 z⟩
 |name=>
  obtain⟨pc,a,nm,ms⟩:=w;cases ms with
  |nil=>injection e
  |cons m ms=>injection e;exact⟨id,au _,ao _,λz=>q3 z,λI=>rfl⟩
 |set=>
  obtain⟨pc,a,nm,ms⟩:=w;cases ms with
  |nil=>injection e
  |cons m ms=>injection e;exact⟨id,aY ai,au _,λz=>q3 z,λI=>rfl⟩
 |place=>injection e;exact⟨id,aY ai,au _,λz=>q3 z,λI=>rfl⟩
 |abort=>injection e
 |done=>injection e
 |_=>injection e;exact⟨id,au _,au _,λz=>q3 z,λI=>rfl⟩
theorem si(e:ke s o w h lg=some (ok,w',h',G'))(ha:w.at_<=s.length):w'.at_<=s.length/\G'.length<=lg.length+1/\
  (iL o->ok=true/\h'= .top (mJ w o)/\G'=lg/\w'=⟨w.pc+1,w.at_,w.nm,w.ms⟩)/\(iL o=false->h'=h):=
 ⟨(ny e).1 ha,(ny e).2.1,(ny e).2.2.2⟩
abbrev Mx(n:Nat)(u':List Value)(h:Hs):O:=.stk (nA n h) u'
def sJ(lim st:Nat)(lg:List LE)(s:Str)(os:List fz)(bg:Int)(p:Option Wy)(w:Wy)(h:Hs)(u':List Value):List O:=
 iR (dG lim st) (valO lg) (dz lg) (Mx (10+nP p) u' h) s (os.map (ordV 0)) (iP (.obj (9+nP p)) bg) (yz p++fH 0 7 w::lX h)
structure iw(s:Str)(w:Wy)(h:Hs)(lg:List LE)(st:Nat)(u':List Value):Prop where
 bat:w.at_<=s.length
 blg:lg.length<=st
 brest:u'.length<=st
 bst:st<1000
 bemp:h= .emp->u'=[]
 bsuc:∀w2,h= .top (.suc w2)->w2.at_<=s.length
def JE(lim:Nat)(s:Str)(os:List fz)(bg:Int)(x:iF×List LE×Nat)(N:Nat)(σ:List O):Prop:=
 (∃n p w h lg st u',N=n+1/\σ=sJ lim st lg s os bg p w h u'/\fQ s os lim n p w h lg st=some x/\iw s w h lg st u')\/
 (N=0/\∃w lg st,σ=iR (dG lim st) (valO lg) (dz lg) (.stk [] []) s (os.map (ordV 0)) (iP .none bg) [fH 0 7 w]/\x=(.failed w,lg,st))
def HJ(lim:Nat)(s:Str)(os:List fz)(bg:Int)(x:iF×List LE×Nat)(fl:Fl)(σ:List O):Prop:=match x with
 |(.met w,lg,st)=>fl= .ret (.tup [.int true 0,.obj 9])/\σ=iR (dG lim st) (valO lg) (dz lg) .any s (os.map (ordV 0)) [] [fH 0 7 w]
 |(.over w,lg,st)=>fl= .ret (.tup [.int true 2,.none])/\σ=iR (dG lim st) (valO lg) (dz lg) .any s (os.map (ordV 0)) [] [fH 0 7 w]
 |(.failed w,lg,st)=>fl= .next/\σ=iR (dG lim st) (valO lg) (dz lg) (.stk [] []) s (os.map (ordV 0)) (iP .none bg) [fH 0 7 w]
 |(.raised _,_,_)=>False
def HY(lim:Nat)(s:Str)(os:List fz)(x:iF×List LE×Nat)(σ:List O):Prop:=match x with
 |(.raised w,lg,st)=>σ=iR (dG lim st) (valO lg) (dz lg) .any s (os.map (ordV 0)) [] [fH 0 7 w]
 |_=>False
theorem mI(G:dI b)(A':¬lim<st+1)(tl:List O):Ct b 40 573 [.obj 1] ([cY,dG lim st,valO lg,.list true [],dz lg]++tl) .none ([cY,dG lim (st+1),valO lg,.list true [],dz lg]++tl):=by
 have T:Ct b 20 573 [.obj 1] [cY,dG lim st,valO lg,.list true [],dz lg] .none [cY,dG lim (st+1),valO lg,.list true [],dz lg]:=
  dF G (r:=0) (n:=20) (l₀:=[]) [0,1,2,3,4] (IX _ _ _ (lim:Int) (st:Int) (valO lg) (dz lg)) ⟨ag (by omega),N4⟩ (.k .ref (.k (.host (st:=st+1) rfl rfl rfl) (.k (.valO lg) (.k (.l .z) (.k (.log lg) .z))))) .n
 have q:=fJ.frame (l:=[0,1,2,3,4]) (os:=[cY,dG lim st,valO lg,.list true [],dz lg]++tl) (I':=[cY,dG lim st,valO lg,.list true [],dz lg]) (news:=[cY,dG lim (st+1),valO lg,.list true [],dz lg]) (vs:=[.obj 1]) (w:=.none) rfl T rfl ()
  (.k .ref (.k (.host rfl rfl rfl) (.k (.valO lg) (.k (.l .z) (.k (.log lg) .z))))) (.k (.o rfl) .z)
  (.k .ref (.k (.host rfl rfl rfl) (.k (.valO lg) (.k (.l .z) (.k (.log lg) .z))))) .n
 have q':Ct b 20 573 [.obj 1] ([cY,dG lim st,valO lg,.list true [],dz lg]++tl) .none (([cY,dG lim (st+1),valO lg,.list true [],dz lg]++tl)++[]):=q;rw[aQ] at q';exact q'.more ()
def im(b:Bs)(EI:eW):Prop:=∀lim st lg,lim<st+1->st<1000->eU ((C b).at 40) EI 573 [.obj 1] [cY,dG lim st,valO lg,.list true [],dz lg] [cY,dG lim (st+1),valO lg,.list true [],dz lg]
theorem CZ(SX:im b EI)(A':lim<st+1)(hs:st<1000)(tl:List O):eU ((C b).at 40) EI 573 [.obj 1] ([cY,dG lim st,valO lg,.list true [],dz lg]++tl) ([cY,dG lim (st+1),valO lg,.list true [],dz lg]++tl):=by
 have q:=eU.frame (l:=[0,1,2,3,4]) (os:=[cY,dG lim st,valO lg,.list true [],dz lg]++tl) (I':=[cY,dG lim st,valO lg,.list true [],dz lg]) (news:=[cY,dG lim (st+1),valO lg,.list true [],dz lg]) (vs:=[.obj 1]) rfl (SX lim st lg A' hs) rfl ()
  (.k .ref (.k (.host rfl rfl rfl) (.k (.valO lg) (.k (.l .z) (.k (.log lg) .z))))) (.k (.o rfl) .z)
  (.k .ref (.k (.host rfl rfl rfl) (.k (.valO lg) (.k (.l .z) (.k (.log lg) .z)))))
 have q':eU ((C b).at 40) EI 573 [.obj 1] ([cY,dG lim st,valO lg,.list true [],dz lg]++tl) (([cY,dG lim (st+1),valO lg,.list true [],dz lg]++tl)++[]):=q;rw[aQ] at q';exact q'
def CD(p:Option Wy)(h:Hs):List Nat:=[0,1,2,3,4,5,6,7]++match h with
 | .top _=>[9+nP p,10+nP p]
 |_=>[9+nP p]
abbrev CL(p:Option Wy)(lim st:Nat)(lg:List LE)(s:Str)(os:List fz)(u':List Value)(fr:List (Nm×V))(top:List V)(tl:List O):List O:=iR (dG lim st) (valO lg) (dz lg) (.stk top u') s (os.map (ordV 0)) fr (yz p++tl)
theorem Na(p:Option Wy)(h:Hs):fb (CD p h) (9+nP p)=some 8:=by cases p<;>cases h<;>rfl
theorem MC(p:Option Wy)(t:Ht):fb (CD p (.top t)) (10+nP p)=some 9:=by cases p<;>rfl
theorem MJ(p:Option Wy)(t:Ht)(m:Nat):back (CD p (.top t)) m 9=some (10+nP p):=by cases p<;>rfl
theorem M9(p:Option Wy)(h:Hs):kj (CD p h) 0 8:=by cases h<;>rfl
theorem Ng(p:Option Wy)(h:Hs){tp:List V}{x:O}:(CL p lim st lg s os u' fr tp (x::lX h)).length=10+nP p+nH h:=by cases p<;>cases h<;>rfl
theorem FR{topB:List V}{H':List O}
  (H:Ct b 40 475 [.obj 5,ordW 0 o,.obj 8] (cells lim st lg s (.stk (nA 9 h) u') os++(fH 0 7 w::lX h)) (.bool ok) (cells lim st G' s (.stk top' u') os++(fH 0 7 w'::tl')))
  (hT:∀m,m=10+nP p+nH h->RVs (back (CD p h) m) top' topB) (hX:∀f:Nat->Option Nat,f 0=some 0->f 7=some 7->ROs f tl' tl')
  (eq:fG (CL p lim st lg s os u' fr (nA (10+nP p) h) (fH 0 7 w::lX h)) (CD p h) ((cells lim st G' s (.stk topB u') os++(fH 0 7 w'::tl')).take (CD p h).length)++(cells lim st G' s (.stk topB u') os++(fH 0 7 w'::tl')).drop (CD p h).length=H'):
  Ct b 40 475 [.obj 5,ordV 0 o,.obj (9+nP p)] (CL p lim st lg s os u' fr (nA (10+nP p) h) (fH 0 7 w::lX h)) (.bool ok) H':=by
 have z:∀i,i<8->fb (CD p h) i=some i:=qZ _;have z9:=Na p h;have zt:∀t,h= .top t->fb (CD p h) (10+nP p)=some 9:=λt e=>by rw[e];exact MC p t
 have y:∀m i,i<8->back (CD p h) m i=some i:=λm=>GC (M9 p h);have q:=fJ.frame (l:=CD p h) (os:=CL p lim st lg s os u' fr (nA (10+nP p) h) (fH 0 7 w::lX h)) (I':=cells lim st lg s (.stk (nA (10+nP p) h) u') os++(fH 0 7 w::lX h)) (news:=cells lim st G' s (.stk topB u') os++(fH 0 7 w'::tl')) (vs:=[.obj 5,ordV 0 o,.obj (9+nP p)]) (w:=.bool ok) rfl H (by cases p<;>cases h<;>rfl) (jW (by cases p<;>cases h<;>rfl))
  (.cells z (.hs zt) (.k (.way (z 0 ()) (z 7 ()) w) (.hs1 (z 0 ()) (z 7 ())))) (.k (.o (z 5 ())) (.k (.ordW (z 0 ()) o) (.k (.o z9) .z)))
  (.cells (y _) (hT _ (Ng p h)) (.k (.way (y _ 0 ()) (y _ 7 ()) w') (hX _ (y _ 0 ()) (y _ 7 ())))) .b
 rw[eq] at q;exact q
theorem vc(G:dI b)(hs:s.length<=8)(ha:w.at_<=s.length)(hl:lg.length<2^20)(ht:∀t,nth os w.pc=some (.one (.txt t))->t.length<2^20)(ho:nth os w.pc=some o)(np:iL o=false)(e:ke s o w h lg=some (ok,w',h',G'))(fr:List (Nm×V)):
  Ct b 40 475 [.obj 5,ordV 0 o,.obj (9+nP p)] (CL p lim st lg s os u' fr (nA (10+nP p) h) (fH 0 7 w::lX h)) (.bool ok) (CL p lim st G' s os u' fr (nA (10+nP p) h) (fH 0 7 w'::lX h)):=
 FR (topB:=nA (10+nP p) h) (Ix G hs ha hl ht ho np e) (λm I=>.hs λt e=>by rw[e];exact MJ p t m) (λf h0 h7=>.hs1 h0 h7) (by clear G hs ha hl ht ho np e;cases p<;>cases h<;>rfl)
theorem IT(G:dI b)(hr:u'.length+(nA 9 h).length<2^20)(np:iL o)(fr:List (Nm×V)):
  Ct b 40 475 [.obj 5,ordV 0 o,.obj (9+nP p)] (CL p lim st lg s os u' fr (nA (10+nP p) h) (fH 0 7 w::lX h)) (.bool true) (CL p lim st lg s os u' fr (.obj (10+nP p+nH h)::nA (10+nP p) h) (fH 0 7 ⟨w.pc+1,w.at_,w.nm,w.ms⟩::(lX h++[Cd 0 7 (mJ w o)]))):=
 FR (topB:=.obj (10+nP p+nH h)::nA (10+nP p) h) (I2 G hr np) (λm e=>.k (.o (by rw[e];clear G hr np e m;cases p<;>cases h<;>rfl)) (.hs λt e=>by rw[e];exact MJ p t m)) (λf h0 h7=>.hs h0 h7 (.k (.top h0 h7 _) .z)) (by clear G hr np;cases p<;>cases h<;>rfl)
theorem jN(ho:nth os w.pc=some o)(h1:eM o≠gu)(h2:eM o≠eV)(A':¬lim<st+1):fQ s os lim (n+1) p w h lg st=match ke s o w h lg with
   |none=>none
   |some (true,w,h,lg)=>fQ s os lim n p w h lg (st+1)
   |some (false,w',h,lg)=>match h with
    | .emp=>match p with | none=>some (.failed w',lg,st+1) | some _=>none
    | .opq=>none
    | .top .fen=>match p with | none=>some (.over w',lg,st+1) | some _=>none
    | .top (.suc w2)=>fQ s os lim n (some (first p w')) w2 .opq lg (st+1):=by
 show(if lim<st+1 then _ else _)=_;rw[if_neg A',ho];clear ho A';cases o<;>first | rfl | exact absurd rfl h1 | exact absurd rfl h2
abbrev tN(b:Bs)(EI:eW)(rz:Prop)(lim st:Nat)(lg:List LE)(s:Str)(os:List fz)(bg:Int)(p:Option Wy)(w:Wy)(h:Hs)(u':List Value)(x:iF×List LE×Nat)(n:Nat):Prop:=
 iE (C b) 40 (fe [573,475]) (fe [573]) EI rz 30 10 (d0 iK) 8 (sJ lim st lg s os bg p w h u') (HJ lim s os bg x) (HY lim s os x) (λσ'=>∃N',N'<n+1/\JE lim s os bg x N' σ')
structure RC(b:Bs)(s:Str)(lim:Nat)(os:List fz)(x:iF×List LE×Nat)(EI:eW)(rz:Prop):Prop where
 G:dI b
 hs:s.length<=8
 hlim:lim<1000
 hos:os.length<1000
 ht:∀i t,nth os i=some (.one (.txt t))->t.length<2^20
 SX:(∃w l t,x=(iF.raised w,l,t))->rz/\im b EI
theorem nU(K:RC b s lim os x EI rz)(ho:nth os w.pc=some o):(0:Int)<=w.pc/\(w.pc:Int)<2^62/\nth (os.map (ordV 0)) (w.pc:Int).toNat=some (ordV 0 o):=
 ⟨Int.natCast_nonneg _,by have:=fR ho;have:=K.hos;omega,by show nth (os.map (ordV 0)) w.pc=_;rw[jH,ho];rfl⟩
def MD(p:Option Wy)(h:Hs):List Nat:=[0,1,2,3,4,5,6,7]++match p with
 |none=>match h with
  | .top _=>[8,9,10]
  |_=>[8,9]
 |some _=>match h with
  | .top _=>[8,9,10,11]
  |_=>[8,9,10]
def M5(p:Option Wy):List Nat:=[0,1,2,3,4,5,6,7]++match p with
 |none=>[8,9,11]
 |some _=>[8,9,10,12]
def Np(p:Option Wy):List Nat:=[0,1,2,3,4,5,6,7]++match p with
 |none=>[8,9,10]
 |some _=>[8,9,11]
theorem Ak{y:V}{J:List O->Prop}(hJ:J (sJ lim st lg s os bg p w h u')):dg (C b) 10 (fb (MD p h)) (CL p lim st lg s os u' (gU (.obj (9+nP p)) bg y) (nA (10+nP p) h) (fH 0 7 w::lX h)) J:=by
 have z:∀i,i<8->fb (MD p h) i=some i:=qZ _;refine dg.to (I':=CL p lim st lg s os u' (gU (.obj (9+nP p)) bg y) (nA (10+nP p) h) (fH 0 7 w::lX h)) hJ (by cases p<;>cases h<;>rfl) (.runA z (.hs λt e=>by subst e;cases p<;>rfl) (.run z (.o (by cases p<;>cases h<;>rfl))) ?_) (jW (by cases p<;>cases h<;>rfl)) (by cases p<;>cases h<;>rfl);have k:ROs (fb (MD p h)) (fH 0 7 w::lX h) (fH 0 7 w::lX h):=.k (.way (z 0 ()) (z 7 ()) w) (.hs1 (z 0 ()) (z 7 ()));cases p with
 |none=>exact k
 |some v=>exact .k (.way (z 0 ()) (z 7 ()) v) k
theorem Be(K:RC b s lim os x EI rz)(inv:iw s w h lg st u')(A':lim<st+1)(hx:x=(.raised (first p w),lg,st+1)):tN b EI rz lim st lg s os bg p w h u' x n:=by
 subst hx;exact Cr (K.SX ⟨_,_,_,rfl⟩).1 (Fz (I':=iR (dG lim (st+1)) (valO lg) (dz lg) (Mx (10+nP p) u' h) s (os.map (ordV 0)) (iP (.obj (9+nP p)) bg) (yz p++fH 0 7 w::lX h)) ..) ⟨CZ (K.SX ⟨_,_,_,rfl⟩).2 A' inv.bst _,N4⟩ ⟨_,dg.to (l:=[0,1,2,3,4,5,6,7,8,9]) (I':=iR (dG lim (st+1)) (valO lg) (dz lg) (Mx (10+nP p) u' h) s (os.map (ordV 0)) (iP (.obj (9+nP p)) bg) [fH 0 7 (first p w)]) (H':=iR (dG lim (st+1)) (valO lg) (dz lg) .any s (os.map (ordV 0)) [] [fH 0 7 (first p w)]) rfl (by cases p<;>rfl) (.runE () (.k (.way (by rfl) (by rfl) (first p w)) .z))⟩
theorem GE(K:RC b s lim os x EI rz)(A':¬lim<st+1)(ho:nth os w.pc=some o)(hw:eM o=gu)(hx:x=(.met w,lg,st+1)):tN b EI rz lim st lg s os bg none w h u' x n:=by
 subst hx;exact vn (KH (p:=none) (wd:=eM o) (xt:=ordTl 0 o) (nm:=nmR 0 w.nm) (mk:=trR w.ms) ..) ⟨av hw,nU K ho,mI K.G A' _,N4⟩ (.t (.k .i (.k (.o (by rfl)) .z))) (dg.to (l:=[0,1,2,3,4,5,6,7,8,9]) (H':=iR (dG lim (st+1)) (valO lg) (dz lg) .any s (os.map (ordV 0)) [] [fH 0 7 w]) ⟨rfl,rfl⟩ rfl (.runE (st:=st+1) () (.k (.way (by rfl) (by rfl) w) .z)))
theorem BX(K:RC b s lim os x EI rz)(A':¬lim<st+1)(ho:nth os w.pc=some o)(hw:eM o=eV)(hx:x=(.over w,lg,st+1)):tN b EI rz lim st lg s os bg none w h u' x n:=by
 subst hx;exact vn (Fn (p:=none) (wd:=eM o) (xt:=ordTl 0 o) (nm:=nmR 0 w.nm) (mk:=trR w.ms) ..) ⟨av hw,ag (by rw[hw];decide),nU K ho,mI K.G A' _,N4⟩ (.t (.k .i (.k .n .z))) (dg.to (l:=[0,1,2,3,4,5,6,7,8,9]) (H':=iR (dG lim (st+1)) (valO lg) (dz lg) .any s (os.map (ordV 0)) [] [fH 0 7 w]) ⟨rfl,rfl⟩ rfl (.runE (st:=st+1) () (.k (.way (by rfl) (by rfl) w) .z)))
theorem nX(inv:iw s w h lg st u'):lg.length<2^20/\u'.length+1<2^20:=⟨by have:=inv.blg;have:=inv.bst;omega,by have:=inv.brest;have:=inv.bst;omega⟩
theorem D3{n':Nat}(K:RC b s lim os x EI rz)(inv:iw s w h lg st u')(A':¬lim<st+1)(ho:nth os w.pc=some o)(h1:eM o≠gu)(h2:eM o≠eV)(np:iL o=false)(hd:ke s o w h lg=some (true,w',h,G'))(hn:n=n'+1)(hm:fQ s os lim n' p w' h G' (st+1)=some x):tN b EI rz lim st lg s os bg p w h u' x n:=by
 have k:=si hd inv.bat;have inv':iw s w' h G' (st+1) u':=⟨k.1,ax k.2.1 (aC inv.blg),aG inv.brest,by have:=K.hlim;omega,inv.bemp,inv.bsuc⟩
 exact pB (Dm (wd:=eM o) (xt:=ordTl 0 o) (nm:=nmR 0 w.nm) (mk:=trR w.ms) ..) ⟨vc K.G K.hs inv.bat (nX inv).1 (λt=>K.ht _ t) ho np hd _,ag h2,ag h1,nU K ho,mI K.G A' _,N4⟩ ⟨_,Ak ⟨n,aX _,.inl ⟨n',p,w',h,G',st+1,u',hn,rfl,hm,inv'⟩⟩⟩
end
nonrec theorem DZ{b:Bs}{lim st:Nat}{s:Str}{os:List fz}{w:Wy}{lg:List LE}{u':List Value}{EI:eW}{bg:Int}{x:iF×List LE×Nat}{rz:Prop}{n n':Nat}{{p:Option Wy}}(K:RC b s lim os x EI rz){h:Hs}(inv:iw s w h lg st u')(A':¬lim<st+1){o:fz}(ho:nth os w.pc=some o)(h1:eM o≠gu)(h2:eM o≠eV)(np:iL o)(hn:n=n'+1)(hm:fQ s os lim n' p ⟨w.pc+1,w.at_,w.nm,w.ms⟩ (.top (mJ w o)) lg (st+1)=some x):tN b EI rz lim st lg s os bg p w h u' x n:=by
 have inv1:∀r:List Value,r.length<=st+1->iw s ⟨w.pc+1,w.at_,w.nm,w.ms⟩ (.top (mJ w o)) lg (st+1) r:=λr hr=>⟨inv.bat,aG inv.blg,hr,by have:=K.hlim;omega,λz=>(by cases z),λw2 z=>by
  cases o with
  |fence=>
   have z:Hs.top .fen=Hs.top (.suc w2):=z;cases z
  |succeed=>
   have z:Hs.top (.suc w)=Hs.top (.suc w2):=z;cases z;exact inv.bat
  |_=>cases np⟩
 have hr:u'.length+(nA 9 h).length<2^20:=by
  have:=(nX inv).2;cases h with
  |top t=>exact this
  |_=>exact Nat.lt_of_succ_lt this
 refine pB (Dm (wd:=eM o) (xt:=ordTl 0 o) (nm:=nmR 0 w.nm) (mk:=trR w.ms) ..) ⟨IT K.G hr np _,ag h2,ag h1,nU K ho,mI K.G A' _,N4⟩ ?_;have go:∀r:List Value,r.length<=st+1->∃N',N'<n+1/\JE lim s os bg x N' (sJ lim (st+1) lg s os bg p ⟨w.pc+1,w.at_,w.nm,w.ms⟩ (.top (mJ w o)) r):=λr hr=>⟨n,aX _,.inl ⟨n',p,_,_,lg,st+1,r,hn,rfl,hm,inv1 r hr⟩⟩
 cases h with
 |top t=>
  refine⟨_,dg.absorb (i:=6) rfl λx=>dg.to (l:=M5 p) (I':=CL p lim (st+1) lg s os (u'++[x]) (gU (.obj (9+nP p)) bg (ordV 0 o)) [.obj (11+nP p)] [fH 0 7 ⟨w.pc+1,w.at_,w.nm,w.ms⟩,Cd 0 7 (mJ w o)]) (go (u'++[x]) (by rw[ai];exact aC inv.brest)) (by cases p<;>rfl) ?_ (jW (by cases p<;>rfl)) (by cases p<;>rfl)⟩;cases p with
  |none=>exact .runA (st:=st+1) (qZ _) (.k (.o (by rfl)) .z) (.run (qZ _) (.o (by rfl))) (.k (.way (by rfl) (by rfl) _) (.k (.top (by rfl) (by rfl) (mJ w o)) .z))
  |some v=>exact .runA (st:=st+1) (qZ _) (.k (.o (by rfl)) .z) (.run (qZ _) (.o (by rfl))) (.k (.way (by rfl) (by rfl) v) (.k (.way (by rfl) (by rfl) _) (.k (.top (by rfl) (by rfl) (mJ w o)) .z)))
 |_=>exact⟨_,Ak (h:=.top (mJ w o)) (go u' (aG inv.brest))⟩
theorem GU{b:Bs}{lim st:Nat}{s:Str}{os:List fz}{w:Wy}{lg:List LE}{u':List Value}{EI:eW}{bg:Int}{x:iF×List LE×Nat}{rz:Prop}{n:Nat}{o:fz}{w':Wy}{G':List LE}(K:RC b s lim os x EI rz)(inv:iw s w .emp lg st u')(A':¬lim<st+1)(ho:nth os w.pc=some o)(h1:eM o≠gu)(h2:eM o≠eV)(np:iL o=false)(hd:ke s o w .emp lg=some (false,w',.emp,G'))(hx:x=(.failed w',G',st+1)):tN b EI rz lim st lg s os bg none w .emp u' x n:=by
 subst hx;obtain rfl:=inv.bemp rfl;exact pB (Lm (wd:=eM o) (xt:=ordTl 0 o) (nm:=nmR 0 w.nm) (mk:=trR w.ms) ..) ⟨rfl,by decide,vc (p:=none) K.G K.hs inv.bat (nX inv).1 (λt=>K.ht _ t) ho np hd _,ag h2,ag h1,nU K ho,mI K.G A' _,N4⟩ ⟨_,dg.to (l:=[0,1,2,3,4,5,6,7,8,9]) (H':=iR (dG lim (st+1)) (valO G') (dz G') (.stk [] []) s (os.map (ordV 0)) (iP .none bg) [fH 0 7 w']) ⟨0,Nat.succ_pos _,.inr ⟨rfl,w',G',st+1,rfl,rfl⟩⟩ rfl (.runA (st:=st+1) () .z (.run () .n) (.k (.way (by rfl) (by rfl) w') .z))⟩
theorem GG{b:Bs}{lim st:Nat}{s:Str}{os:List fz}{w:Wy}{lg:List LE}{u':List Value}{EI:eW}{bg:Int}{x:iF×List LE×Nat}{rz:Prop}{n:Nat}{o:fz}{w':Wy}{G':List LE}(K:RC b s lim os x EI rz)(inv:iw s w (.top .fen) lg st u')(A':¬lim<st+1)(ho:nth os w.pc=some o)(h1:eM o≠gu)(h2:eM o≠eV)(np:iL o=false)(hd:ke s o w (.top .fen) lg=some (false,w',.top .fen,G'))(hx:x=(.over w',G',st+1)):tN b EI rz lim st lg s os bg none w (.top .fen) u' x n:=by
 subst hx;have hr:=(nX inv).2;exact vn (KZ (wd:=eM o) (xt:=ordTl 0 o) (nm:=nmR 0 w.nm) (mk:=trR w.ms) ..) ⟨hr,av (by omega),by omega,vc (p:=none) K.G K.hs inv.bat (nX inv).1 (λt=>K.ht _ t) ho np hd _,ag h2,ag h1,nU K ho,mI K.G A' _,N4⟩ (.t (.k .i (.k .n .z))) (dg.to (l:=[0,1,2,3,4,5,6,7,8,9]) (H':=iR (dG lim (st+1)) (valO G') (dz G') .any s (os.map (ordV 0)) [] [fH 0 7 w']) ⟨rfl,rfl⟩ rfl (.runE (st:=st+1) () (.k (.way (by rfl) (by rfl) w') .z)))
nonrec theorem FP{b:Bs}{lim st:Nat}{s:Str}{os:List fz}{w:Wy}{lg:List LE}{u':List Value}{EI:eW}{bg:Int}{rz:Prop}{n:Nat}{w2 w':Wy}{G':List LE}{n':Nat}{x:iF×List LE×Nat}{o:fz}{{p:Option Wy}}(K:RC b s lim os x EI rz)(inv:iw s w (.top (.suc w2)) lg st u')(A':¬lim<st+1)(ho:nth os w.pc=some o)(h1:eM o≠gu)(h2:eM o≠eV)(np:iL o=false)(hd:ke s o w (.top (.suc w2)) lg=some (false,w',.top (.suc w2),G'))(hn:n=n'+1)(hm:fQ s os lim n' (some (first p w')) w2 .opq G' (st+1)=some x):tN b EI rz lim st lg s os bg p w (.top (.suc w2)) u' x n:=by
 have k:=si hd inv.bat;have hr:=(nX inv).2;have inv':iw s w2 .opq G' (st+1) u':=⟨inv.bsuc w2 rfl,ax k.2.1 (aC inv.blg),aG inv.brest,by have:=K.hlim;omega,λz=>(by injection z),λI z=>by injection z⟩
 refine pB (JO (wd:=eM o) (xt:=ordTl 0 o) (nm:=nmR 0 w.nm) (mk:=trR w.ms) (p2:=.int true (w2.pc:Int)) (a2:=.int true (w2.at_:Int)) (nm2:=nmR 0 w2.nm) (mk2:=trR w2.ms) ..) ⟨hr,av (by omega),by omega,vc (h:=.top (.suc w2)) K.G K.hs inv.bat (nX inv).1 (λt=>K.ht _ t) ho np hd _,ag h2,ag h1,nU K ho,mI K.G A' _,N4⟩ ⟨_,dg.to (l:=Np p) (I':=iR (dG lim (st+1)) (valO G') (dz G') (.stk [] u') s (os.map (ordV 0)) (gU (.obj (10+nP p)) bg (ordV 0 o)) [fH 0 7 (first p w'),fH 0 7 w2]) (H':=sJ lim (st+1) G' s os bg (some (first p w')) w2 .opq u') ⟨n,aX _,.inl ⟨n',some (first p w'),w2,.opq,G',st+1,u',hn,rfl,hm,inv'⟩⟩ (by cases p<;>rfl) ?_ (jW (by cases p<;>rfl)) (by cases p<;>rfl)⟩;cases p with
 |none=>exact .runA (st:=st+1) (qZ _) .z (.run (qZ _) (.o (by rfl))) (.k (.way (by rfl) (by rfl) _) (.k (.way (by rfl) (by rfl) w2) .z))
 |some v=>exact .runA (st:=st+1) (qZ _) .z (.run (qZ _) (.o (by rfl))) (.k (.way (by rfl) (by rfl) _) (.k (.way (by rfl) (by rfl) w2) .z))
section
variable{lim st:Nat} {os:List fz} {lg:List LE}
theorem qr{s:Str}{w:Wy}{n:Nat}{p:Option Wy}{h:Hs}(ho:nth os w.pc=some .done)(A':¬lim<st+1):fQ s os lim (n+1) p w h lg st=match p with | none=>some (.met w,lg,st+1) | some _=>none:=by
 show(if lim<st+1 then _ else _)=_;rw[if_neg A',ho]
 try rfl
theorem nW{s:Str}{w:Wy}{n:Nat}{p:Option Wy}{h:Hs}(ho:nth os w.pc=some .abort)(A':¬lim<st+1):fQ s os lim (n+1) p w h lg st=match p with | none=>some (.over w,lg,st+1) | some _=>none:=by
 show(if lim<st+1 then _ else _)=_;rw[if_neg A',ho]
 try rfl
theorem wj{s:Str}{w:Wy}{n:Nat}{p:Option Wy}{h:Hs}(ho:nth os w.pc=none)(A':¬lim<st+1):fQ s os lim (n+1) p w h lg st=none:=by
 show(if lim<st+1 then _ else _)=_;rw[if_neg A',ho]
 try rfl
end
nonrec theorem CU{b:Bs}{st:Nat}{s:Str}{os:List fz}{w:Wy}{lg:List LE}{u':List Value}{EI:eW}{bg:Int}{rz:Prop}{{lim:Nat}}{{x:iF×List LE×Nat}}(K:RC b s lim os x EI rz){n:Nat}{p:Option Wy}{h:Hs}(inv:iw s w h lg st u')(hm:fQ s os lim n p w h lg st=some x):
  tN b EI rz lim st lg s os bg p w h u' x n:=by
 cases n with
 |zero=>injection hm
 |succ n=>
  by_cases A':lim<st+1
  .have hm:(if lim<st+1 then some (iF.raised (first p w),lg,st+1) else _)=some x:=hm
   rw[if_pos A'] at hm;have hx:=(ac hm).symm;exact Be K inv A' hx
  .cases ho:nth os w.pc with
   |none=>
    rw[wj ho A'] at hm;injection hm
   |some o=>
    have gen:eM o≠gu->eM o≠eV->tN b EI rz lim st lg s os bg p w h u' x (n+1):=λh1 h2=>by
     rw[jN ho h1 h2 A'] at hm;cases hd:ke s o w h lg with
     |none=>rw[hd] at hm;injection hm
     |some q=>
      obtain⟨ok,w',h',G'⟩:=q;rw[hd] at hm;have k:=si hd inv.bat;cases hp:iL o with
      |true=>
       obtain⟨rfl,rfl,rfl,rfl⟩:=k.2.2.1 hp;exact DZ K inv A' ho h1 h2 hp rfl hm
      |false=>
       obtain rfl:=k.2.2.2 hp;cases ok with
       |true=>
        exact D3 K inv A' ho h1 h2 hp hd rfl hm
       |false=>
        cases h' with
        |emp=>
         cases p with
         |none=>exact GU K inv A' ho h1 h2 hp hd (ac hm).symm
         |some v9=>injection hm
        |opq=>injection hm
        |top t=>
         cases t with
         |fen=>
          cases p with
          |none=>exact GG K inv A' ho h1 h2 hp hd (ac hm).symm
          |some v9=>injection hm
         |suc w2=>
          exact FP K inv A' ho h1 h2 hp hd rfl hm
    cases o with
    |done=>
     rw[qr ho A'] at hm;cases p with
     |none=>exact GE K A' ho rfl (ac hm).symm
     |some v9=>injection hm
    |abort=>
     rw[nW ho A'] at hm;cases p with
     |none=>exact BX K A' ho rfl (ac hm).symm
     |some v9=>injection hm
    |one q=>exact gen (show mj≠gu by decide) (show mj≠eV by decide)
    |_=>exact gen () ()
nonrec theorem wq{b:Bs}{lim st:Nat}{s:Str}{os:List fz}{w:Wy}{lg:List LE}{EI:eW}{bg:Int}{rz:Prop}{n:Nat}(G:dI b)(hs:s.length<=8)(hlim:lim<1000)(hos:os.length<1000)(ht:∀i t,nth os i=some (.one (.txt t))->t.length<2^20){x:iF×List LE×Nat}(SX:(∃w l t,x=(iF.raised w,l,t))->rz/\im b EI)(inv:iw s w .emp lg st [])(hm:fQ s os lim n none w .emp lg st=some x):dL ((C b).at (30+40)) EI rz iK 8 (sJ lim st lg s os bg none w .emp []) (HJ lim s os bg x) (HY lim s os x):=by
 show dL _ _ _ (.while (.cmp .IsNot (.loc dQ) (.cst .none)) (d0 iK)) _ _ _ _;refine oo (c:=C b) (r:=40) (n:=30) (k:=10) (orc:=fe [573,475]) (orc':=fe [573]) G.X G.F (dD G ()) (dD G ()) (ao _) (JE lim s os bg x) (λN σ hI=>?_) (n+1) (.inl ⟨n,none,w,.emp,lg,st,[],rfl,rfl,hm,inv⟩);rcases hI with⟨n,p,w,h,lg,st,u',rfl,rfl,hm,inv⟩ | ⟨rfl,w,lg,st,rfl,rfl⟩
 .refine⟨[],true,⟨sJ lim st lg s os bg p w h u',[],[]⟩,?_,(λI m=>by cases m),CU ⟨G,hs,hlim,hos,ht,SX⟩ inv hm⟩
  cases p<;>cases h<;>rfl
 .exact⟨[],false,⟨_,[],[]⟩,rfl,(λI m=>by cases m),⟨some,dg.id ⟨rfl,rfl⟩⟩⟩
end
section
set_option backward.match.sparseCases false
def H0(H D L Hi:O)(s:Str)(xs:List V)(tl:List O):List O:=[cY,H,D,.list true [],L,Ci s,Hi,.list true xs]++tl
def xy(bg:Int):List (Nm×V):=[(cV,.obj 5),(dY,.obj 7),(dB,.int true bg)]
def ka(R H D L:O)(xs:List V)(tl:List O):List O:=[R,H,D,.list true [],L,.list true xs]++tl
def pI(s:Str)(an:Bool):List (Nm×V):=[(dY,.obj 5),(cS,.str true s),(cT,.bool an),(dt,.obj 1)]
def iB(s:Str)(an:Bool)(j:Int):List (Nm×V):=[(dY,.obj 5),(cS,.str true s),(cT,.bool an),(dt,.obj 1),(dB,.int true j)]
def sU(s:Str)(an:Bool)(j:Int)(h w:V):List (Nm×V):=[(dY,.obj 5),(cS,.str true s),(cT,.bool an),(dt,.obj 1),(dB,.int true j),(Av,h),(dQ,w)]
def tW(s:Str):O:=.inst 513 [(cS,.str true s),(dt,.obj 1),(gZ,.obj 9)]
def xS(s:Str):List (Nm×V):=[(cV,.obj 7),(cS,.str true s),(dt,.obj 1)]
section
variable(sp:jC) (sl:jz) (r:Nat) (rsp:uT) (rsl:vi) (lim st bg:Int) (D L Hi:O) (s:Str) (R:O) (nm last:V) (xs:List V) (fr:List (Nm×V)) (H1 D1 L1 W1:O)
theorem Gd:TC sp sl r [0,1,2,3,4,5,6,7,8,9] [] 10 426 [.obj 9,.obj 7,.int false 0,.int true bg,.none,.none,.none] ⟨iR (cX lim st) D L Hi s xs fr [.inst 436 []],[],[]⟩ .none (iR (cX lim st) D L Hi s xs fr [iW (.obj 7) (.int false 0) (.int true bg) .none .none]) []:=by
 walk_at"k"
theorem Js:TC sp sl r [0,1,2,3,4,5,6,7,9] [426] 20 461 [.obj 5,.obj 7,.int true bg] ⟨H0 (cX lim st) D L Hi s xs [],[.k .none (iR (cX lim st) D L Hi s xs (xy bg) [iW (.obj 7) (.int true 0) (.int true bg) .none .none]),.l (.ret (.tup [.int true 0,.obj 9])) (iR H1 D1 L1 .any s xs [] [W1])],[]⟩ (.tup [.int true 0,.obj 9]) (H0 H1 D1 L1 .any s xs [W1]) [sl iK 8 (iR (cX lim st) D L Hi s xs (iP (.obj 9) bg) [iW (.obj 7) (.int true 0) (.int true bg) .none .none]) (Fl.ret (V.tup [V.int true 0,V.obj 9])) (iR H1 D1 L1 .any s xs [] [W1]),sp 426 [.obj 9,.obj 7,.int false 0,.int true bg,.none,.none,.none] (iR (cX lim st) D L Hi s xs (xy bg) [.inst 436 []]) V.none (iR (cX lim st) D L Hi s xs (xy bg) [iW (.obj 7) (.int true 0) (.int true bg) .none .none])]:=by
 walk_at"k"
theorem Gq:TC sp sl r [0,1,2,3,4,5,6,7] [426] 20 461 [.obj 5,.obj 7,.int true bg] ⟨H0 (cX lim st) D L Hi s xs [],[.k .none (iR (cX lim st) D L Hi s xs (xy bg) [iW (.obj 7) (.int true 0) (.int true bg) .none .none]),.l (.ret (.tup [.int true 2,.none])) (iR H1 D1 L1 .any s xs [] [W1])],[]⟩ (.tup [.int true 2,.none]) (H0 H1 D1 L1 .any s xs []) [sl iK 8 (iR (cX lim st) D L Hi s xs (iP (.obj 9) bg) [iW (.obj 7) (.int true 0) (.int true bg) .none .none]) (Fl.ret (V.tup [V.int true 2,V.none])) (iR H1 D1 L1 .any s xs [] [W1]),sp 426 [.obj 9,.obj 7,.int false 0,.int true bg,.none,.none,.none] (iR (cX lim st) D L Hi s xs (xy bg) [.inst 436 []]) V.none (iR (cX lim st) D L Hi s xs (xy bg) [iW (.obj 7) (.int true 0) (.int true bg) .none .none])]:=by
 walk_at"k"
theorem Hn:TC sp sl r [0,1,2,3,4,5,6,7] [426] 20 461 [.obj 5,.obj 7,.int true bg] ⟨H0 (cX lim st) D L Hi s xs [],[.k .none (iR (cX lim st) D L Hi s xs (xy bg) [iW (.obj 7) (.int true 0) (.int true bg) .none .none]),.l .next (iR H1 D1 L1 (.stk [] []) s xs (iP .none bg) [W1])],[]⟩ (.tup [.int false 1,.none]) (H0 H1 D1 L1 (.stk [] []) s xs []) [sl iK 8 (iR (cX lim st) D L Hi s xs (iP (.obj 9) bg) [iW (.obj 7) (.int true 0) (.int true bg) .none .none]) Fl.next (iR H1 D1 L1 (.stk [] []) s xs (iP .none bg) [W1]),sp 426 [.obj 9,.obj 7,.int false 0,.int true bg,.none,.none,.none] (iR (cX lim st) D L Hi s xs (xy bg) [.inst 436 []]) V.none (iR (cX lim st) D L Hi s xs (xy bg) [iW (.obj 7) (.int true 0) (.int true bg) .none .none])]:=by
 walk_at"k"
theorem Fa:Option.map (tj [0,1,2,3,4,5,6,7]) ((tP (Pg (fe [426]) sp sl r) (Rg (fe []) rsp rsl) 20).c 461 [.obj 5,.obj 7,.int true bg] ⟨H0 (cX lim st) D L Hi s xs [],[.k .none (iR (cX lim st) D L Hi s xs (xy bg) [iW (.obj 7) (.int true 0) (.int true bg) .none .none]),.r (iR H1 D1 L1 .any s xs [] [W1])],[]⟩)=some (List.map some (H0 H1 D1 L1 .any s xs []),[rsl iK 8 (iR (cX lim st) D L Hi s xs (iP (.obj 9) bg) [iW (.obj 7) (.int true 0) (.int true bg) .none .none]) (iR H1 D1 L1 .any s xs [] [W1]),sp 426 [.obj 9,.obj 7,.int false 0,.int true bg,.none,.none,.none] (iR (cX lim st) D L Hi s xs (xy bg) [.inst 436 []]) V.none (iR (cX lim st) D L Hi s xs (xy bg) [iW (.obj 7) (.int true 0) (.int true bg) .none .none])]):=by
 walk_at"k"
theorem Gh:TS sp sl r [0,1,2] [] 20 (d0 lM) 1 ⟨[R,.frame [(dq,.tup [nm,last]),(dj,.obj 2)],.list true xs],[],[]⟩ Fl.next [R,O.frame [(103,nm),(2,V.obj 2),(131,last)],O.list true (xs++[last])] [List.length xs<2^20]:=by
 walk_at"k"
theorem FE:TC sp sl r [0,2] [] 20 524 [nm] ⟨[R],[.l .next [R,.frame [(dq,.none),(dj,.obj 2)],.list true xs]],[]⟩ (.obj 2) [R,.list true (List.reverse xs)] [List.length xs<2^20,sl lM 1 [R,O.frame [(103,nm),(2,V.obj 2)],O.list true []] Fl.next [R,O.frame [(103,V.none),(2,V.obj 2)],O.list true xs]]:=by
 walk_at"k"
theorem G2(sp:jC)(sl:jz)(r:Nat)(R D L:O)(lim st j:Int)(s:Str)(an:Bool)(xs:List V)(H1 D1 L1:O):TS sp sl r [0,1,2,3,4,5,6] [461,524] 30 (d0 fk) 6 ⟨ka R (cX lim st) D L xs [.frame (iB s an j)],[.k (.tup [.int true 1,.none]) (ka R H1 D1 L1 xs [.frame (iB s an j),tW s,.frame (xS s),.any]),.b false,.b false],[]⟩ Fl.next (ka R H1 D1 L1 xs [.frame (sU s an j (.int true 1) .none)]) [decide (1=2)=false,decide (1=0)=false,sp 461 [.obj 7,.obj 5,.int true j] (ka R (cX lim st) D L xs [.frame (iB s an j),.inst 513 [(75,.str true s),(67,.obj 1),(107,.obj 9)],.frame (xS s),.list true []]) (V.tup [V.int true 1,V.none]) (ka R H1 D1 L1 xs [.frame (iB s an j),.inst 513 [(75,.str true s),(67,.obj 1),(107,.obj 9)],.frame (xS s),.any])]:=by
 walk_at"k"
theorem GI(sp:jC)(sl:jz)(r:Nat)(R D L:O)(lim st j:Int)(s:Str)(an:Bool)(xs:List V)(H1 D1 L1:O):TS sp sl r [0,1,2,3,4,5,6] [461,524] 30 (d0 fk) 6 ⟨ka R (cX lim st) D L xs [.frame (iB s an j)],[.k (.tup [.int true 2,.none]) (ka R H1 D1 L1 xs [.frame (iB s an j),tW s,.frame (xS s),.any]),.b false,.b true],[]⟩ (Fl.ret .none) (ka R H1 D1 L1 xs [.frame (sU s an j (.int true 2) .none)]) [decide (2=2)=true,decide (2=0)=false,sp 461 [.obj 7,.obj 5,.int true j] (ka R (cX lim st) D L xs [.frame (iB s an j),.inst 513 [(75,.str true s),(67,.obj 1),(107,.obj 9)],.frame (xS s),.list true []]) (V.tup [V.int true 2,V.none]) (ka R H1 D1 L1 xs [.frame (iB s an j),.inst 513 [(75,.str true s),(67,.obj 1),(107,.obj 9)],.frame (xS s),.any])]:=by
 walk_at"k"
theorem JL(sp:jC)(sl:jz)(r:Nat)(R D L:O)(lim st j:Int)(s:Str)(an:Bool)(xs:List V)(H1 D1 L1:O)(pc a nm mk:V)(ys:List V):TS sp sl r [0,1,2,3,4,5,6,11] [461,524] 30 (d0 fk) 6 ⟨ka R (cX lim st) D L xs [.frame (iB s an j)],[.k (.tup [.int true 0,.obj 10]) (ka R H1 D1 L1 xs [.frame (iB s an j),tW s,.frame (xS s),.any,iW (.obj 5) pc a nm mk]),.b true,.k (.obj 11) (ka R H1 D1 L1 xs [.frame (sU s an j (.int true 0) (.obj 10)),tW s,.frame (xS s),.any,iW (.obj 5) pc a nm mk]++[.list true ys])],[]⟩ (Fl.ret (.tup [.int true j,a,.obj 11])) (ka R H1 D1 L1 xs [.frame (sU s an j (.int true 0) (.obj 10)),.list true ys]) [sp 524 [nm] (ka R H1 D1 L1 xs [.frame (sU s an j (.int true 0) (.obj 10)),.inst 513 [(75,.str true s),(67,.obj 1),(107,.obj 9)],.frame (xS s),.any,.inst 436 [(11,.obj 5),(102,pc),(31,a),(103,nm),(104,mk),(105,.none)]]) (V.obj 11) (ka R H1 D1 L1 xs [.frame (sU s an j (.int true 0) (.obj 10)),.inst 513 [(75,.str true s),(67,.obj 1),(107,.obj 9)],.frame (xS s),.any,.inst 436 [(11,.obj 5),(102,pc),(31,a),(103,nm),(104,mk),(105,.none)],.list true ys]),decide (0=0)=true,sp 461 [.obj 7,.obj 5,.int true j] (ka R (cX lim st) D L xs [.frame (iB s an j),.inst 513 [(75,.str true s),(67,.obj 1),(107,.obj 9)],.frame (xS s),.list true []]) (V.tup [V.int true 0,V.obj 10]) (ka R H1 D1 L1 xs [.frame (iB s an j),.inst 513 [(75,.str true s),(67,.obj 1),(107,.obj 9)],.frame (xS s),.any,.inst 436 [(11,.obj 5),(102,pc),(31,a),(103,nm),(104,mk),(105,.none)]])]:=by
 walk_at"k"
theorem DA(sp:jC)(sl:jz)(r:Nat)(rsp:uT)(rsl:vi)(R D L:O)(lim st j:Int)(s:Str)(an:Bool)(xs:List V)(H1 D1 L1:O):Option.map (tj [0,1,2,3,4,5,6]) ((tP (Pg (fe [461,524]) sp sl r) (Rg (fe [461]) rsp rsl) 30).ss (d0 fk) 6 ⟨ka R (cX lim st) D L xs [.frame (iB s an j)],[.r (ka R H1 D1 L1 xs [.frame (iB s an j),tW s,.frame (xS s),.any])],[]⟩)=some (List.map some (ka R H1 D1 L1 xs [.frame (iB s an j)]),[rsp 461 [.obj 7,.obj 5,.int true j] (ka R (cX lim st) D L xs [.frame (iB s an j),.inst 513 [(75,.str true s),(67,.obj 1),(107,.obj 9)],.frame (xS s),.list true []]) (ka R H1 D1 L1 xs [.frame (iB s an j),.inst 513 [(75,.str true s),(67,.obj 1),(107,.obj 9)],.frame (xS s),.any])]):=by
 walk_at"k"
theorem LR(sp:jC)(sl:jz)(r:Nat)(R D L:O)(lim st:Int)(s:Str)(an:Bool)(xs:List V)(H1 D1 L1:O):TC sp sl r [0,1,2,3,4,5] [] 20 531 [.obj 5,.str true s,.bool an,.obj 1] ⟨ka R (cX lim st) D L xs [],[.l .next (ka R H1 D1 L1 xs [.frame (pI s an)])],[]⟩ .none (ka R H1 D1 L1 xs []) [sl fk 6 (ka R (cX lim st) D L xs [.frame (pI s an)]) Fl.next (ka R H1 D1 L1 xs [.frame (pI s an)])]:=by
 walk_at"k"
theorem L8(sp:jC)(sl:jz)(r:Nat)(R D L:O)(lim st:Int)(s:Str)(an:Bool)(xs:List V)(H1 D1 L1:O):TC sp sl r [0,1,2,3,4,5] [] 20 531 [.obj 5,.str true s,.bool an,.obj 1] ⟨ka R (cX lim st) D L xs [],[.l (.ret .none) (ka R H1 D1 L1 xs [.frame []])],[]⟩ .none (ka R H1 D1 L1 xs []) [sl fk 6 (ka R (cX lim st) D L xs [.frame (pI s an)]) (Fl.ret V.none) (ka R H1 D1 L1 xs [.frame []])]:=by
 walk_at"k"
theorem Ma(sp:jC)(sl:jz)(r:Nat)(R D L:O)(lim st:Int)(s:Str)(an:Bool)(xs:List V)(H1 D1 L1:O)(j e:Int)(ys:List V):TC sp sl r [0,1,2,3,4,5,7] [] 20 531 [.obj 5,.str true s,.bool an,.obj 1] ⟨ka R (cX lim st) D L xs [],[.l (.ret (.tup [.int true j,.int true e,.obj 7])) (ka R H1 D1 L1 xs [.frame [],.list true ys])],[]⟩ (.tup [.int true j,.int true e,.obj 7]) (ka R H1 D1 L1 xs [.list true ys]) [sl fk 6 (ka R (cX lim st) D L xs [.frame (pI s an)]) (Fl.ret (V.tup [V.int true j,V.int true e,V.obj 7])) (ka R H1 D1 L1 xs [.frame [],.list true ys])]:=by
 walk_at"k"
theorem Mg(sp:jC)(sl:jz)(r:Nat)(rsp:uT)(rsl:vi)(R D L:O)(lim st:Int)(s:Str)(an:Bool)(xs:List V)(H1 D1 L1:O):Option.map (tj [0,1,2,3,4,5]) ((tP (Pg (fe []) sp sl r) (Rg (fe []) rsp rsl) 20).c 531 [.obj 5,.str true s,.bool an,.obj 1] ⟨ka R (cX lim st) D L xs [],[.r (ka R H1 D1 L1 xs [.frame []])],[]⟩)=some (List.map some (ka R H1 D1 L1 xs []),[rsl fk 6 (ka R (cX lim st) D L xs [.frame (pI s an)]) (ka R H1 D1 L1 xs [.frame []])]):=by
 walk_at"k"
end
def xD(lim:Nat)(p:Option Wy)(w:Wy)(lg:List LE)(st:Nat)(r:iF)(G':List LE)(C':Nat):Prop:=
 lg.length<=st->st<=lim->(G'.length<=C'/\C'<=lim+1/\((∀w,r≠ .raised w)->C'<=lim))/\∀v,r= .met v->p=none/\(w.nm.length<=st->v.nm.length<=C')
section
variable{lim st C':Nat} {p:Option Wy} {w:Wy} {lg G':List LE} {r:iF}
theorem yL{x:Wy}:xD lim p w lg st (.raised x) lg (st+1):=λa b=>⟨⟨aG a,aC b,λz=>absurd rfl (z _)⟩,λv e=>by injection e⟩
theorem oM(A':¬lim<st+1)(h:G'.length<=lg.length+1)(m:∀v,r= .met v->p=none/\v=w):xD lim p w lg st r G' (st+1):=
 λa b=>⟨⟨ax h (aC a),aC b,λI=>bA A'⟩,λv e=>⟨(m v e).1,λz=>(m v e).2▸aG z⟩⟩
theorem Gw(A':¬lim<st+1){w1:Wy}{L':List LE}(h:L'.length<=lg.length+1)(n:w1.nm.length<=w.nm.length+1)(q:xD lim p w1 L' (st+1) r G' C'):xD lim p w lg st r G' C':=λa I=>
 have k:=q (ax h (aC a)) (bA A')
 ⟨k.1,λv e=>⟨(k.2 v e).1,λz=>(k.2 v e).2 (ax n (aC z))⟩⟩
theorem Cp(A':¬lim<st+1){x w2:Wy}{L':List LE}(h:L'.length<=lg.length+1)(q:xD lim (some x) w2 L' (st+1) r G' C'):xD lim p w lg st r G' C':=λa I=>
 have k:=q (ax h (aC a)) (bA A')
 ⟨k.1,λv e=>by have z:=(k.2 v e).1;injection z⟩
end
section
variable{os:List fz} {lim:Nat}
theorem EV{s:Str}{r:iF}{G':List LE}{C':Nat}:∀(n:Nat) {p:Option Wy} {w:Wy} {h:Hs} {lg:List LE} {st:Nat},fQ s os lim n p w h lg st=some (r,G',C')->xD lim p w lg st r G' C':=by
 intro n
 induction n with
 |zero=>intro p w h lg st e;injection e
 |succ n ih=>
  intro p w h lg st e
  by_cases A':lim<st+1
  .have e:(if lim<st+1 then some (iF.raised (first p w),lg,st+1) else _)=some (r,G',C'):=e
   rw[if_pos A'] at e;injection e;exact yL
  .cases ho:nth os w.pc with
   |none=>rw[wj ho A'] at e;injection e
   |some o=>
    have gen:eM o≠gu->eM o≠eV->xD lim p w lg st r G' C':=λk1 k2=>by
     rw[jN ho k1 k2 A'] at e;cases hd:ke s o w h lg with
     |none=>rw[hd] at e;injection e
     |some q=>
      obtain⟨ok,w1,hh,L'⟩:=q;obtain⟨_,k,k3,_⟩:=ny hd;rw[hd] at e;cases ok with
      |true=>exact Gw A' k k3 (ih e)
      |false=>
       cases hh with
       |emp=>
        cases p with
        |none=>injection e;exact oM A' k λv z=>by injection z
        |some v=>injection e
       |opq=>injection e
       |top t=>
        cases t with
        |fen=>
         cases p with
         |none=>injection e;exact oM A' k λv z=>by injection z
         |some v=>injection e
        |suc w2=>exact Cp A' k (ih e)
    cases o with
    |done=>
     rw[qr ho A'] at e;cases p with
     |none=>injection e;exact oM A' (au _) λv z=>⟨rfl,by injection z with z;exact z.symm⟩
     |some v=>injection e
    |abort=>
     rw[nW ho A'] at e;cases p with
     |none=>injection e;exact oM A' (au _) λv z=>by injection z
     |some v=>injection e
    |one q=>exact gen (show mj≠gu by decide) (show mj≠eV by decide)
    |_=>exact gen () ()
def IY(n:Nat):iF->V
 | .met _=>.tup [.int true 0,.obj n]
 | .over _=>.tup [.int true 2,.none]
 | .failed _=>.tup [.int true 1,.none]
 | .raised _=>.none
def EH(o:Nat):iF->List O
 | .met w=>[fH 0 o w]
 |_=>[]
theorem rq{b:Bs}{st:Nat}{s:Str}{lg:List LE}{bg:Nat}(G:dI b):Ct b 70 426 [.obj 9,.obj 7,.int false 0,.int true (bg:Int),.none,.none,.none] (iR (dG lim st) (valO lg) (dz lg) (.stk [] []) s (os.map (ordV 0)) (xy (bg:Int)) [.inst 436 []]) .none
  (iR (dG lim st) (valO lg) (dz lg) (.stk [] []) s (os.map (ordV 0)) (xy (bg:Int)) [fH 0 7 ⟨0,bg,[],[]⟩]):=by
 refine fJ.more (c:=C b) (r:=10) (cr G _ (Gd ..) trivial ?_ .n) ();exact .runA (lim:=lim) (st:=st) () .z (.k rfl (.o (by rfl)) (.k rfl (.o (by rfl)) (.k rfl .i .z))) (.k (.x (.k (.o (by rfl)) (.k .i (.k .i (.k .n (.k .n (.k .n .z))))))) .z)
theorem nq{st:Nat}{s:Str}{lg:List LE}{f:Nat->Option Nat}{hi:O}{tl tl':List O}(h:∀i,i<8->f i=some i)(hh:RO f hi .any)(k:ROs f tl tl'):ROs f (cells lim st lg s hi os++tl) (cells lim st lg s .any os++tl'):=
 .k .ref (.k (.host (h _ ()) (h _ ()) (h _ ())) (.k (.valO lg) (.k (.l .z) (.k (.log lg) (.k (.mat (h _ ()) (h _ ())) (.k hh (.k (.ord (h _ ()) os) k)))))))
end
nonrec theorem Ku{b:Bs}{lim st:Nat}{s:Str}{os:List fz}{lg:List LE}{n bg:Nat}{{x:iF×List LE×Nat}}(G:dI b)(hs:s.length<=8)(hlim:lim<1000)(hos:os.length<1000)(ht:∀i t,nth os i=some (.one (.txt t))->t.length<2^20)(hb:bg<=s.length)(hl:lg.length<=st)(A':st<1000)(hm:fQ s os lim n none ⟨0,bg,[],[]⟩ .emp lg st=some x)(hr:∀w l t,x≠(.raised w,l,t)):
  Ct b 90 461 [.obj 5,.obj 7,.int true (bg:Int)] (cells lim st lg s (.stk [] []) os) (IY 8 x.1) (cells lim x.2.2 x.2.1 s .any os++EH 7 x.1):=by
 have inv:iw s ⟨0,bg,[],[]⟩ .emp lg st []:=⟨hb,hl,aJ _,A',λI=>rfl,λI z=>by injection z⟩
 have L:=wq (EI:=λI I I=>True) (bg:=(bg:Int)) (rz:=False) G hs hlim hos ht (λ⟨w,l,t,e⟩=>absurd e (hr w l t)) inv hm;obtain⟨r,G',C'⟩:=x;cases r with
 |met w=>exact dF G (r:=70) (n:=20) (l₀:=[426]) [0,1,2,3,4,5,6,7,9] (Js ..) ⟨dL.normal L,rq G,N4⟩ (nq () .a (.k (.way (by rfl) (by rfl) w) .z)) (.t (.k .i (.k (.o (by rfl)) .z)))
 |over w=>exact dF G (r:=70) (n:=20) (l₀:=[426]) [0,1,2,3,4,5,6,7] (Gq ..) ⟨dL.normal L,rq G,N4⟩ (nq () .a .z) (.t (.k .i (.k .n .z)))
 |failed w=>exact dF G (r:=70) (n:=20) (l₀:=[426]) [0,1,2,3,4,5,6,7] (Hn ..) ⟨dL.normal L,rq G,N4⟩ (nq () .stkAny .z) (.t (.k .i (.k .n .z)))
 |raised w=>exact absurd rfl (hr w G' C')
theorem kW{EI:eW}{b:Bs}(G:dI b){r n f:Nat}{l₀ l₁:List Nat}{vs:List V}{os I' H':List O}{ch:List Ch}{cs:List Prop}(l:List Nat)
  (h:((tP (Pg (fe l₀) (Ct b r) (Lt b r) r) (Rg (fe l₁) (eU ((C b).at r) EI) (mK ((C b).at r) EI)) n).c f vs ⟨os,ch,[]⟩).map (tj l)=some (I'.map some,cs)) (hc:jv cs) (S:ROs (fb l) I' H')
  (h0:l₀.all (λf=>(oh.fn f).isSome)=true:=by decide) (h1:l₁.all (λf=>(oh.fn f).isSome)=true:=by decide) (nd:l.Nodup:=by decide) (keep:kj l 0 os.length:=by rfl):eU ((C b).at (n+r)) EI f vs os H':=
 Ee G.X G.F (dD G h0) (dD G h1) l h hc nd (fj keep) S
theorem Kr{b:Bs}{lim st:Nat}{s:Str}{os:List fz}{lg:List LE}{EI:eW}{n bg:Nat}(G:dI b)(hs:s.length<=8)(hlim:lim<1000)(hos:os.length<1000)(ht:∀i t,nth os i=some (.one (.txt t))->t.length<2^20)(hb:bg<=s.length)(hl:lg.length<=st)(A':st<1000)(SX:im b EI)
  {w:Wy} {G':List LE} {C':Nat} (hm:fQ s os lim n none ⟨0,bg,[],[]⟩ .emp lg st=some (.raised w,G',C')):
  eU ((C b).at 90) EI 461 [.obj 5,.obj 7,.int true (bg:Int)] (cells lim st lg s (.stk [] []) os) (cells lim C' G' s .any os):=by
 have inv:iw s ⟨0,bg,[],[]⟩ .emp lg st []:=⟨hb,hl,aJ _,A',λI=>rfl,λI z=>by injection z⟩
 have L:=wq (EI:=EI) (bg:=(bg:Int)) (rz:=True) G hs hlim hos ht (λI=>⟨N4,SX⟩) inv hm;exact kW G (r:=70) (n:=20) (l₀:=[426]) (l₁:=[]) [0,1,2,3,4,5,6,7] (Fa ..) ⟨dL.raises L (λI I h=>h),rq G,N4⟩ (nq (tl:=[]) (tl':=[]) () .a .z)
/-! the names in a row -/
def iC(s:Str):V:=.tup [.obj 0,.str true s]
theorem RV.np{f:Nat->Option Nat}(h:f 0=some 0)(x:Str):RV f (iC x) (iC x):=.t (.k (.o h) (.k .s .z))
theorem RVs.nps{f:Nat->Option Nat}(h:f 0=some 0)(l:List Str):RVs f (l.map iC) (l.map iC):=.map' l λx I=>.np h x
nonrec theorem F5{b:Bs}{R:O}{ns:List Str}(G:dI b)(hR:∀f,RO f R R)(hn:ns.length<1000):Ct b 40 524 [nmR 0 ns] [R] (.obj 1) [R,.list true (ns.reverse.map iC)]:=by
 have L:dL ((C b).at (20+0)) (λI I I=>True) False lM 1 [R,.frame [(dq,nmR 0 ns),(dj,.obj 2)],.list true []] (λfl σ=>fl= .next/\σ=[R,.frame [(dq,.none),(dj,.obj 2)],.list true (ns.map iC)]) (λI=>False):=by
  show dL _ _ _ (.while (.cmp .IsNot (.loc dq) (.cst .none)) (d0 lM)) _ _ _ _;refine oo (c:=C b) (r:=0) (n:=20) (k:=3) (orc:=fe []) (orc':=fe []) G.X G.F (dD G ()) (dD G ()) (ao _)
   (λN σ=>∃d r,ns=d++r/\N=r.length/\σ=[R,.frame [(dq,nmR 0 r),(dj,.obj 2)],.list true (d.map iC)]) (λN σ hI=>?_) ns.length ⟨[],ns,rfl,rfl,rfl⟩
  obtain⟨d,r,e,rfl,rfl⟩:=hI;cases r with
  |nil=>
   rw[aQ] at e;subst e;exact⟨[],false,⟨_,[],[]⟩,rfl,(λI m=>by cases m),⟨some,dg.id ⟨rfl,rfl⟩⟩⟩
  |cons a r=>
   have hd:(d.map iC).length<2^20:=by
    rw[e,ai] at hn;rw[af];omega
   refine⟨[],true,⟨_,[],[]⟩,rfl,(λI m=>by cases m),eS [0,1,2] (Gh ..) ⟨hd,N4⟩ (H':=[R,.frame [(dq,nmR 0 r),(dj,.obj 2)],.list true ((d++[a]).map iC)]) (.k (hR _) (.k (.f (.k rfl (.nmR (by rfl) _) (.k rfl (.o (by rfl)) .z))) (.k (.l ?_) .z))) ⟨r.length,aX _,d++[a],r,by rw[e,aw];rfl,rfl,rfl⟩⟩;rw[bn];exact(RVs.nps (by rfl) d).app' (.k (.np (by rfl) a) .z)
 have hl:(ns.map iC).length<2^20:=by rw[af];omega
 refine dF G (r:=20) (n:=20) (l₀:=[]) [0,2] (FE ..) ⟨hl,dL.normal L,N4⟩ (.k (hR _) (.k (.l ?_) .z)) (.o rfl);rw[<-List.map_reverse];exact .nps (by rfl) _
/-! match_orders -/
inductive mQ where
 |nope (k:Nat)
 |met (b e:Nat) (ns:List Str)
 |raised
def Cz(s:Str)(os:List fz)(lim:Nat):Nat->Nat->List LE->Nat->Option (mQ×List LE×Nat)
 |0,_,lg,st=>some (.nope 0,lg,st)
 |n+1,j,lg,st=>match fQ s os lim (lim+2) none ⟨0,j,[],[]⟩ .emp lg st with
  |none=>none
  |some (.failed _,lg,st)=>Cz s os lim n (j+1) lg st
  |some (.over _,lg,st)=>some (.nope 1,lg,st)
  |some (.met w,lg,st)=>some (.met j w.at_ w.nm.reverse,lg,st)
  |some (.raised _,lg,st)=>some (.raised,lg,st)
def C6(n:Nat):mQ->V
 | .met j e _=>.tup [.int true (j:Int),.int true (e:Int),.obj n]
 |_=>.none
def rM:mQ->List O
 | .met _ _ ns=>[.list true (ns.map iC)]
 |_=>[]
def ir(lim st:Nat)(lg:List LE)(os:List fz)(tl:List O):List O:=ka cY (dG lim st) (valO lg) (dz lg) (os.map (ordV 0)) tl
theorem ROs.mo{lim st:Nat}{os:List fz}{lg:List LE}{f:Nat->Option Nat}{tl tl':List O}(h:∀i,i<6->f i=some i)(k:ROs f tl tl'):ROs f (ir lim st lg os tl) (ir lim st lg os tl'):=
 .k .ref (.k (.host (h _ ()) (h _ ()) (h _ ())) (.k (.valO lg) (.k (.l .z) (.k (.log lg) (.k (.ord (h _ ()) os) k)))))
theorem FrR.mo2{s:Str}{f:Nat->Option Nat}{an:Bool}{j:Int}{u v:V}(h:∀i,i<6->f i=some i):FrR f (sU s an j u v) (pI s an):=
 .k rfl (.o (h _ ())) (.k rfl .s (.k rfl .b (.k rfl (.o (h _ ())) .z)))
def Kl(lim:Nat)(s:Str)(os:List fz)(an:Bool)(x:mQ×List LE×Nat)(fl:Fl)(σ:List O):Prop:=match x with
 |(.nope 0,lg,st)=>fl= .next/\σ=ir lim st lg os [.frame (pI s an)]
 |(.nope (_+1),lg,st)=>fl= .ret .none/\σ=ir lim st lg os [.frame []]
 |(.met j e ns,lg,st)=>fl= .ret (.tup [.int true (j:Int),.int true (e:Int),.obj 7])/\σ=ir lim st lg os [.frame [],.list true (ns.map iC)]
 |(.raised,_,_)=>False
def KM(lim:Nat)(os:List fz)(x:mQ×List LE×Nat)(σ:List O):Prop:=match x with
 |(.raised,lg,st)=>σ=ir lim st lg os [.frame []]
 |_=>False
def MI(lim:Nat)(s:Str)(os:List fz)(an:Bool)(x:mQ×List LE×Nat)(n j:Nat)(σ:List O):Prop:=
 ∃lg st,σ=ir lim st lg os [.frame (pI s an)]/\Cz s os lim (n - j) j lg st=some x/\lg.length<=st/\st<=lim
def J2(s:Str)(an:Bool)(j:Int)(tl:List O):List O:=[.frame (iB s an j),tW s,.frame (xS s)]++tl
nonrec theorem zy{b:Bs}{lim st:Nat}{s:Str}{os:List fz}{lg:List LE}{n bg:Nat}{an:Bool}{{x:iF×List LE×Nat}}(G:dI b)(hs:s.length<=8)(hlim:lim<1000)(hos:os.length<1000)(ht:∀i t,nth os i=some (.one (.txt t))->t.length<2^20)(hb:bg<=s.length)(hl:lg.length<=st)(A':st<1000)(hm:fQ s os lim n none ⟨0,bg,[],[]⟩ .emp lg st=some x)(hr:∀w l t,x≠(.raised w,l,t)):
  Ct b 90 461 [.obj 7,.obj 5,.int true (bg:Int)] (ir lim st lg os (J2 s an bg [.list true []])) (IY 10 x.1) (ir lim x.2.2 x.2.1 os (J2 s an bg (.any::EH 5 x.1))):=by
 have T:=Ku (b:=b) G hs hlim hos ht hb hl A' hm hr;obtain⟨r,G',C'⟩:=x;have q:=fJ.frame (l:=[0,1,2,3,4,7,9,5]) (os:=ir lim st lg os (J2 s an bg [.list true []])) (I':=[cY,dG lim st,valO lg,.list true [],dz lg,tW s,.list true [],nT os]) (news:=[cY,dG lim C',valO G',.list true [],dz G',tW s,.any,nT os]++EH 5 r)
  (vs:=[.obj 7,.obj 5,.int true (bg:Int)]) (w:=IY 10 r) rfl T rfl ()
  (.k .ref (.k (.host rfl rfl rfl) (.k (.valO lg) (.k (.l .z) (.k (.log lg) (.k (.x (.k .s (.k (.o rfl) (.k (.o rfl) .z)))) (.k (.toStk .z) (.k (.ord (by rfl) os) .z))))))))
  (.k (.o rfl) (.k (.o rfl) (.k .i .z)))
  (.k .ref (.k (.host rfl rfl rfl) (.k (.valO G') (.k (.l .z) (.k (.log G') (.k (.x (.k .s (.k (.o rfl) (.k (.o rfl) .z)))) (.k .a (.k (.ord (by rfl) os) ?_))))))))
  ?_
 .cases r<;>exact q
 .cases r with
  |met w=>exact .k (.way (by rfl) (by rfl) w) .z
  |_=>exact .z
 .cases r with
  |met w=>exact .t (.k .i (.k (.o (by rfl)) .z))
  |raised w=>exact .n
  |_=>exact .t (.k .i (.k .n .z))
theorem Ip{b:Bs}{lim st:Nat}{s:Str}{os:List fz}{lg:List LE}{EI:eW}{n bg:Nat}(G:dI b)(hs:s.length<=8)(hlim:lim<1000)(hos:os.length<1000)(ht:∀i t,nth os i=some (.one (.txt t))->t.length<2^20)(hb:bg<=s.length)(hl:lg.length<=st)(A':st<1000)(SX:im b EI){an:Bool}
  {w:Wy} {G':List LE} {C':Nat} (hm:fQ s os lim n none ⟨0,bg,[],[]⟩ .emp lg st=some (.raised w,G',C')):
  eU ((C b).at 90) EI 461 [.obj 7,.obj 5,.int true (bg:Int)] (ir lim st lg os (J2 s an bg [.list true []])) (ir lim C' G' os (J2 s an bg [.any])):=by
 have T:=Kr (b:=b) G hs hlim hos ht hb hl A' SX hm;have q:=eU.frame (l:=[0,1,2,3,4,7,9,5]) (os:=ir lim st lg os (J2 s an bg [.list true []])) (I':=[cY,dG lim st,valO lg,.list true [],dz lg,tW s,.list true [],nT os]) (news:=[cY,dG lim C',valO G',.list true [],dz G',tW s,.any,nT os])
  (vs:=[.obj 7,.obj 5,.int true (bg:Int)]) rfl T rfl ()
  (.k .ref (.k (.host rfl rfl rfl) (.k (.valO lg) (.k (.l .z) (.k (.log lg) (.k (.x (.k .s (.k (.o rfl) (.k (.o rfl) .z)))) (.k (.toStk .z) (.k (.ord (by rfl) os) .z))))))))
  (.k (.o rfl) (.k (.o rfl) (.k .i .z)))
  (.k .ref (.k (.host rfl rfl rfl) (.k (.valO G') (.k (.l .z) (.k (.log G') (.k (.x (.k .s (.k (.o rfl) (.k (.o rfl) .z)))) (.k .a (.k (.ord (by rfl) os) .z))))))))
 exact q
theorem wN(s:Str)(os:List fz)(lim n j:Nat)(lg:List LE)(st:Nat):Cz s os lim (n+1) j lg st=match fQ s os lim (lim+2) none ⟨0,j,[],[]⟩ .emp lg st with
  |none=>none
  |some (.failed _,lg,st)=>Cz s os lim n (j+1) lg st
  |some (.over _,lg,st)=>some (.nope 1,lg,st)
  |some (.met w,lg,st)=>some (.met j w.at_ w.nm.reverse,lg,st)
  |some (.raised _,lg,st)=>some (.raised,lg,st):=rfl
theorem GW{b:Bs}(G:dI b){os0:List O}{ns:List Str}(hn:ns.length<1000)(h0:nth os0 0=some cY):Ct b 90 524 [nmR 0 ns] os0 (.obj os0.length) (fG os0 [0] [cY]++[.list true (ns.reverse.map iC)]):=by
 have T:=F5 (b:=b) G (R:=cY) (λf=>.ref) hn;have q:=fJ.frame (l:=[0]) (os:=os0) (I':=[cY]) (news:=[cY,.list true (ns.reverse.map iC)]) (vs:=[nmR 0 ns]) (w:=.obj os0.length) rfl T (by simp [h0]) ()
  (.k .ref .z) (.k (.nmR (by rfl) ns) .z) (.k .ref (.k (.l (.nps (by rfl) _)) .z)) (.o (by unfold back;simp [nth]))
 exact q.more ()
nonrec theorem GX{b:Bs}{lim st:Nat}{s:Str}{os:List fz}{lg:List LE}{EI:eW}{n j:Nat}{rz:Prop}{{an:Bool}}{{x:mQ×List LE×Nat}}(G:dI b)(hs:s.length<=8)(hlim:lim<990)(hos:os.length<1000)(ht:∀i t,nth os i=some (.one (.txt t))->t.length<2^20)(SX:(∃l t,x=(mQ.raised,l,t))->rz/\im b EI)(hj:j<n)(hn:n<=s.length+1)(h1:Cz s os lim (n - j) j lg st=some x)(hl:lg.length<=st)(A':st<=lim):
  iE (C b) 90 (fe [461,524]) (fe [461]) EI rz 30 7 (d0 fk) 6 (ir lim st lg os [.frame (iB s an (j:Int))]) (Kl lim s os an x) (KM lim os x) (MI lim s os an x n (j+1)):=by
 rw[show n - j=(n - (j+1))+1 from by omega,wN] at h1;have hb:j<=s.length:=by omega
 have hst':st<1000:=by omega
 cases hm:fQ s os lim (lim+2) none ⟨0,j,[],[]⟩ .emp lg st with
 |none=>rw[hm] at h1;injection h1
 |some q=>
  obtain⟨r,G',C'⟩:=q;rw[hm] at h1;obtain⟨bd,nmb⟩:=EV _ hm hl A';cases r with
  |raised w=>
   have h1:=(ac h1).symm;subst h1;obtain⟨z1,z2⟩:=SX ⟨_,_,rfl⟩;have e:=DA (Ct b 90) (Lt b 90) 90 (eU ((C b).at 90) EI) (mK ((C b).at 90) EI) cY (valO lg) (dz lg) (lim:Int) (st:Int) (j:Int) s an (os.map (ordV 0)) (dG lim C') (valO G') (dz G');obtain⟨q,e1,e2⟩:=aq.mp e;obtain⟨e3,e4⟩:[0,1,2,3,4,5,6].map (nth q.os ·)=_/\q.cs=_:=by simpa only[bc] using e2
   refine .inr ⟨z1,_,q,e1,?_,_,dg.to (l:=[0,1,2,3,4,5,6]) (H':=ir lim C' G' os [.frame []]) rfl e3 (.mo () (.k (.f .z) .z))⟩;rw[e4];exact gh ⟨Ip G hs (by omega) hos ht hb hl hst' z2 hm,N4⟩
  |failed w=>
   exact eS [0,1,2,3,4,5,6] (G2 ..) ⟨by decide,by decide,zy G hs (by omega) hos ht hb hl hst' hm (λI I I z=>by cases z),N4⟩
    (.mo () (.k (.f (.mo2 ())) .z)) ⟨G',C',rfl,h1,bd.1,bd.2.2 (λI z=>by injection z)⟩
  |over w=>
   have h1:=(ac h1).symm;subst h1;exact fT [0,1,2,3,4,5,6] (GI ..) ⟨by decide,by decide,zy G hs (by omega) hos ht hb hl hst' hm (λI I I z=>by cases z),N4⟩
    (.mo () (.k (.f .z) .z)) .n ⟨rfl,rfl⟩
  |met w=>
   have h1:=(ac h1).symm;subst h1;have hw:w.nm.length<1000:=by
    have:=(nmb w rfl).2 (aJ _);have:=bd.2.1;omega
   exact fT [0,1,2,3,4,5,6,11] (JL ..)
    ⟨GW G hw rfl,by decide,zy G hs (by omega) hos ht hb hl hst' hm (λI I I z=>by cases z),N4⟩
    (.mo () (.k (.f .z) (.k (.l (.nps (by rfl) _)) .z))) (.t (.k .i (.k .i (.k (.o (by rfl)) .z)))) ⟨rfl,rfl⟩
nonrec theorem zT{b:Bs}{lim st:Nat}{s:Str}{os:List fz}{lg:List LE}{EI:eW}{rz:Prop}{{an:Bool}}{{x:mQ×List LE×Nat}}(G:dI b)(hs:s.length<=8)(hlim:lim<990)(hos:os.length<1000)(ht:∀i t,nth os i=some (.one (.txt t))->t.length<2^20)(SX:(∃l t,x=(mQ.raised,l,t))->rz/\im b EI)(h1:Cz s os lim (dJ s an) 0 lg st=some x)(hl:lg.length<=st)(A':st<=lim):
  dL ((C b).at (30+90)) EI rz fk 6 (ir lim st lg os [.frame (pI s an)]) (Kl lim s os an x) (KM lim os x):=by
 have K:=dD G (l:=[461,524]) ();have hi:uH ((C b).at (30+90)) (.call (.glb gJ) [(.ite (.loc cT) (.cst (.int 1)) (.bin .Add (.call (.glb fW) [(.loc cS)]) (.cst (.int 1))))]) 6 (ir lim st lg os [.frame (pI s an)]) (.rng (dJ s an)) (ir lim st lg os [.frame (pI s an)]):=by
  cases an with
  |true=>exact iA (c:=C b) (st:=⟨ir lim st lg os [.frame (pI s true)],[],[]⟩) (ch:=[]) (y:=false) (m:=1) G.X G.F K rfl (by rfl) (λI m=>by cases m) ()
  |false=>exact iA (c:=C b) (st:=⟨ir lim st lg os [.frame (pI s false)],[],[s.length<2^20]⟩) (ch:=[]) (y:=true) (m:=s.length+1) G.X G.F K rfl (by rfl) (λI m=>by cases m with | head=>show s.length<2^20;omega | tail _ m=>cases m) (by omega)
 have hn:dJ s an<=s.length+1:=by unfold dJ;split<;>omega
 show dL _ _ _ (.for dB (.call (.glb gJ) [(.ite (.loc cT) (.cst (.int 1)) (.bin .Add (.call (.glb fW) [(.loc cS)]) (.cst (.int 1))))]) (d0 fk)) _ _ _ _;refine rN (c:=C b) (k:=7) (N2:=.rng (dJ s an)) G.X G.F K (dD G (l:=[461]) ()) (orc':=fe [461]) (ao _) hi (by intro z;injection z)
  (MI lim s os an x (dJ s an)) ⟨lg,st,rfl,h1,hl,A'⟩ (λi xs z=>by injection z) (λj σ hI=>by show dJ s an<2^60;omega) (λj σ v hI hv=>?_) (λσ hI=>?_)
 .obtain⟨lg,st,rfl,h1,hl,A'⟩:=hI
  have hv:(if j<dJ s an then some (V.int true (j:Nat)) else none)=some v:=hv
  by_cases z:j<dJ s an
  .rw[if_pos z] at hv
   cases hv;exact⟨⟨ir lim st lg os [.frame (iB s an (j:Int))],[],[]⟩,rfl,GX G hs hlim hos ht SX z hn h1 hl A'⟩
  .rw[if_neg z] at hv;injection hv
 .obtain⟨lg,st,rfl,h1,hl,A'⟩:=hI
  have h1:Cz s os lim (dJ s an - dJ s an) (dJ s an) lg st=some x:=h1;rw[Nat.sub_self] at h1;have h1:=(ac h1).symm;subst h1;exact⟨some,dg.id ⟨rfl,rfl⟩⟩
theorem Mf{b:Bs}{lim st:Nat}{s:Str}{os:List fz}{lg:List LE}{an:Bool}{x:mQ×List LE×Nat}(G:dI b)(hs:s.length<=8)(hlim:lim<990)(hos:os.length<1000)(ht:∀i t,nth os i=some (.one (.txt t))->t.length<2^20)
  (h1:Cz s os lim (dJ s an) 0 lg st=some x) (hl:lg.length<=st) (A':st<=lim) (hr:∀l t,x≠(.raised,l,t)):
  Ct b 140 531 [.obj 5,.str true s,.bool an,.obj 1] (ir lim st lg os []) (C6 6 x.1) (ir lim x.2.2 x.2.1 os (rM x.1)):=by
 have L:=zT (EI:=λI I I=>True) (rz:=False) G hs hlim hos ht (λ⟨l,t,e⟩=>absurd e (hr l t)) h1 hl A';obtain⟨r,G',C'⟩:=x;cases r with
 |nope k=>
  match k,L with
  |0,L=>exact dF G (r:=120) (n:=20) (l₀:=[]) [0,1,2,3,4,5] (LR ..) ⟨dL.normal L,N4⟩ (.mo () .z) .n
  |k+1,L=>exact dF G (r:=120) (n:=20) (l₀:=[]) [0,1,2,3,4,5] (L8 ..) ⟨dL.normal L,N4⟩ (.mo () .z) .n
 |met j e ns=>exact dF G (r:=120) (n:=20) (l₀:=[]) [0,1,2,3,4,5,7] (Ma ..) ⟨dL.normal L,N4⟩ (.mo () (.k (.l (.nps (by rfl) _)) .z)) (.t (.k .i (.k .i (.k (.o (by rfl)) .z))))
 |raised=>exact absurd rfl (hr G' C')
theorem Mt{b:Bs}{lim st:Nat}{s:Str}{os:List fz}{lg:List LE}{EI:eW}{an:Bool}(G:dI b)(hs:s.length<=8)(hlim:lim<990)(hos:os.length<1000)(ht:∀i t,nth os i=some (.one (.txt t))->t.length<2^20)(SX:im b EI){G':List LE}{C':Nat}
  (h1:Cz s os lim (dJ s an) 0 lg st=some (.raised,G',C')) (hl:lg.length<=st) (A':st<=lim):
  eU ((C b).at 140) EI 531 [.obj 5,.str true s,.bool an,.obj 1] (ir lim st lg os []) (ir lim C' G' os []):=by
 have L:=zT (EI:=EI) (rz:=True) G hs hlim hos ht (λI=>⟨N4,SX⟩) h1 hl A';exact kW G (r:=120) (n:=20) (l₀:=[]) (l₁:=[]) [0,1,2,3,4,5] (Mg ..) ⟨dL.raises L (λI I h=>h),N4⟩ (.mo () .z)
end
section
set_option backward.match.sparseCases false
/-! nodes,rows,pieces -/
inductive Lf where
 |part (p:dZ)
 |suc
inductive Nd where
 |lf (l:Lf)
 |cat (a b:Nd)
set_option genInjectivity true in
inductive Pc where
 |txt (s:Str)
 |lf (l:Lf)
def jc(r:Nat):Lf->V
 | .part p=>db r p
 | .suc=>.tup [.str true gz]
def d6(r:Nat):Nd->V
 | .lf l=>jc r l
 | .cat a b=>.tup [.str true fO,d6 r a,d6 r b]
def kI(r:Nat):Pc->V
 | .txt s=>.tup [.str true dM,.str true s]
 | .lf l=>jc r l
def eI:Nd->List Lf
 | .lf l=>[l]
 | .cat a b=>eI a++eI b
def iz:Lf->Option Str
 | .part (.mk .bare .ca)=>some sA
 | .part (.mk .bare .cb)=>some sB
 |_=>none
def LX(B':List Pc)(t:Str):Pc->List Pc
 | .txt u=>.txt (u++t)::B'
 | .lf l=>.txt t:: .lf l::B'
def FX(t:Str):List Pc->List Pc
 |[]=>[.txt t]
 |q::r=>LX r t q
def eX(B':List Pc)(l:Lf):List Pc:=match iz l with
 |none=>.lf l::B'
 |some t=>FX t B'
theorem iu{B':List Pc}{l:Lf}(h:iz l=none):eX B' l= .lf l::B':=by
 show(match iz l with | none=>Pc.lf l::B' | some t=>FX t B')=_;rw[h]
theorem gq{B':List Pc}{l:Lf}{t:Str}(h:iz l=some t):eX B' l=FX t B':=by
 show(match iz l with | none=>Pc.lf l::B' | some t=>FX t B')=_;rw[h]
def eQ(ls:List Lf):List Pc:=(ls.foldl eX []).reverse
def i9:gC->fz
 | .ca=>.one (.txt sA)
 | .cb=>.one (.txt sB)
 | .any=>.one .any
 | .len1=>.one (.len 1)
 | .len0=>.one (.len 0)
 | .fail=>.fail
 | .fence=>.fence
 | .abort=>.abort
def eO:Pc->List fz
 | .txt s=>[.one (.txt s)]
 | .lf .suc=>[.succeed]
 | .lf (.part .cur)=>[.place]
 | .lf (.part (.mk .bare b))=>[i9 b]
 | .lf (.part (.mk .now b))=>[.mark,i9 b,.set]
 | .lf (.part (.mk .later b))=>[.mark,i9 b,.name]
def eA(nd:Nd):List fz:=(eQ (eI nd)).flatMap eO++[.done]
def eg(l:Nat):O:=.inst 82 [(dY,.obj l)]
def AP(n k:V):List (Nm×V):=[(cU,n),(du,k),(jO,.obj 3),(dj,.obj 2)]
def B4:List (Nm×V):=[(io,.obj 1),(dj,.obj 3)]
def tA(v:V):List (Nm×V):=[(io,.obj 1),(dj,.obj 3),(dU,v)]
def xT(nd:V):List (Nm×V):=[(cV,.obj 1),(cU,nd),(du,.str true fO)]
def BJ(nd v:V):List (Nm×V):=[(cV,.obj 1),(cU,nd),(du,.str true fO),(dU,v)]
def G4:List (Nm×V):=[(dY,.obj 1),(dj,.obj 3)]
def IN(v:V):List (Nm×V):=[(dY,.obj 1),(dj,.obj 3),(dS,v)]
section
variable(sp:jC) (sl:jz) (r:Nat) (rsp:uT) (rsl:vi) (R:O) (n:V) (P:O) (top:List V) (t u:Str) (os I':List V) (D L:O) (lim st:Int) (s:Str) (an:Bool) (nd v:V) (xs:List V) (a b:V) (kd:Str) (tl ys:List V) (H1 D1 L1:O) (j e:Int) (zs:List V)
theorem GY:TS sp sl r [0,1,2,3] [] 20 (d0 jY) 1 ⟨[R,.frame (AP n (.str false fO)),.list true xs,.stk (.tup [.str true fO,a,b]::top) []],[.b true],[]⟩ Fl.next [R,.frame [(0,n),(1,.str false fO),(3,.obj 3),(2,.obj 2),(5,.tup [.str true fO,a,b])],.list true xs,.stk (a::b::top) []] [(0:Nat)+List.length top+List.length [b,a]<2^20,decide (fO=fO)=true,(0:Nat)+List.length (V.tup [V.str true fO,a,b]::top)<2^20]:=by
 walk_at"k"
theorem IV:TS sp sl r [0,1,2,3] [] 20 (d0 jY) 1 ⟨[R,.frame (AP n (.str false fO)),.list true xs,.stk (.tup (.str true kd::tl)::top) []],[.b false],[]⟩ Fl.next [R,O.frame [(0,n),(1,V.str false fO),(3,V.obj 3),(2,V.obj 2),(5,V.tup (V.str true kd::tl))],O.list true (xs++[V.tup (V.str true kd::tl)]),O.stk top []] [List.length xs<2^20,decide (kd=fO)=false,(0:Nat)+List.length (V.tup (V.str true kd::tl)::top)<2^20]:=by
 walk_at"k"
theorem Nn(sp:jC)(sl:jz)(r:Nat)(R:O)(n:V)(top xs:List V):TC sp sl r [0,2] [] 20 23 [n,.str false fO] ⟨[R],[.l .next [R,.frame (AP n (.str false fO)),.list true xs,.stk [] []]],[]⟩ (.obj 2) [R,.list true xs] [sl jY 1 [R,O.frame (AP n (.str false fO)),O.list true [],O.list true [n]] Fl.next [R,O.frame (AP n (.str false fO)),O.list true xs,O.stk [] []]]:=by
 walk_at"k"
theorem FG:TS sp sl r [0,1,2,3] [] 20 (d0 i7) 2 ⟨[R,P,.frame (tA (.tup (.str true kd::tl))),.stk top []],[.b false],[]⟩ Fl.next [R,P,.frame (tA (.tup (.str true kd::tl))),.stk (.tup (.str true kd::tl)::top) []] [(0:Nat)+List.length top<2^20,decide (kd=S [99,104,97,114,115])=false]:=by
 walk_at"k"
theorem BO:TS sp sl r [0,1,2,3] [] 20 (d0 i7) 2 ⟨[R,P,.frame (tA (.tup [.str true dM,.str true t])),.stk [] []],[.b true,.b false,.b false],[]⟩ Fl.next [R,P,.frame (tA (.tup [.str true dM,.str true t])),.stk [.tup [.str true dM,.str true t]] []] [(0:Nat)+(0:Nat)<2^20,decide (0<Int.ofNat ((0:Nat)+(0:Nat)))=false,(0:Nat)+(0:Nat)<2^62,decide (t=S [])=false,decide (dM=S [99,104,97,114,115])=true]:=by
 walk_at"k"
theorem IM:TS sp sl r [0,1,2,3] [] 20 (d0 i7) 2 ⟨[R,P,.frame (tA (.tup [.str true dM,.str true t])),.stk (.tup [.str true dM,.str true u]::top) []],[.b true,.b false,.b true,.b true],[]⟩ Fl.next [R,P,O.frame (tA (.tup [.str false (S [99,104,97,114,115]),.str true (u++t)])),O.stk (V.tup [V.str false (S [99,104,97,114,115]),V.str true (u++t)]::top) []] [(0:Nat)+List.length top<2^20,Str.length u+Str.length t<=sizeLine,(0:Nat)+List.length (V.tup [V.str true dM,V.str true u]::top)<2^20,decide (dM=S [99,104,97,114,115])=true,Int.ofNat ((0:Nat)+List.length (V.tup [V.str true dM,V.str true u]::top)) - 1=Int.ofNat ((0:Nat)+List.length top)/\Int.ofNat ((0:Nat)+List.length (V.tup [V.str true dM,V.str true u]::top)) - 1<2^62,(0:Nat)+List.length (V.tup [V.str true dM,V.str true u]::top)<2^62,decide (0<Int.ofNat ((0:Nat)+List.length (V.tup [V.str true dM,V.str true u]::top)))=true,(0:Nat)+List.length (V.tup [V.str true dM,V.str true u]::top)<2^62,decide (t=S [])=false,decide (dM=S [99,104,97,114,115])=true]:=by
 walk_at"k"
theorem I0:TS sp sl r [0,1,2,3] [] 20 (d0 i7) 2 ⟨[R,P,.frame (tA (.tup [.str true dM,.str true t])),.stk (.tup (.str true kd::tl)::top) []],[.b true,.b false,.b true,.b false],[]⟩ Fl.next [R,P,.frame (tA (.tup [.str true dM,.str true t])),.stk (.tup [.str true dM,.str true t]:: .tup (.str true kd::tl)::top) []] [(0:Nat)+List.length (V.tup (V.str true kd::tl)::top)<2^20,decide (kd=S [99,104,97,114,115])=false,Int.ofNat ((0:Nat)+List.length (V.tup (V.str true kd::tl)::top)) - 1=Int.ofNat ((0:Nat)+List.length top)/\Int.ofNat ((0:Nat)+List.length (V.tup (V.str true kd::tl)::top)) - 1<2^62,(0:Nat)+List.length (V.tup (V.str true kd::tl)::top)<2^62,decide (0<Int.ofNat ((0:Nat)+List.length (V.tup (V.str true kd::tl)::top)))=true,(0:Nat)+List.length (V.tup (V.str true kd::tl)::top)<2^62,decide (t=S [])=false,decide (dM=S [99,104,97,114,115])=true]:=by
 walk_at"k"
theorem Ni:TC sp sl r [0,1,3] [] 20 37 [.obj 1] ⟨[R,P],[.l .next [R,P,.frame B4,.stk top []]],[]⟩ (.obj 3) [R,P,.stk top []] [sl i7 2 [R,P,O.frame (B4),O.list true []] Fl.next [R,P,O.frame (B4),O.stk top []]]:=by
 walk_at"k"
theorem Gg:TS sp sl r [0,1,2,3,4,5] [65] 20 (d0 pn) 3 ⟨[R,eg 2,.list true os,.frame (BJ nd v),.list true xs,.list true ys],[.k .none [R,eg 2,.list true I',.frame (BJ nd v),.list true xs,.list true ys]],[]⟩ Fl.next [R,eg 2,.list true I',.frame (BJ nd v),.list true xs,.list true ys] [sp 65 [.obj 1,v] [R,eg 2,O.list true os,O.frame (BJ nd v),O.list true xs,O.list true ys] V.none [R,eg 2,O.list true I',O.frame (BJ nd v),O.list true xs,O.list true ys]]:=by
 walk_at"k"
theorem It(sp:jC)(sl:jz)(r:Nat)(R:O)(os I':List V)(a b:V)(xs ys:List V):TC sp sl r [0,1,2] [] 20 65 [.obj 1,.tup [.str true fO,a,b]] ⟨[R,eg 2,.list true os],[.b true,.l .next [R,eg 2,.list true I',.frame (xT (.tup [.str true fO,a,b])),.list true xs,.list true ys]],[]⟩ .none [R,eg 2,.list true I'] [sl pn 3 [R,eg 2,O.list true os,O.frame (xT (.tup [.str true fO,a,b]))] Fl.next [R,eg 2,O.list true I',O.frame (xT (.tup [.str true fO,a,b])),O.list true xs,O.list true ys],decide (fO=S [99,97,116])=true]:=by
 walk_at"k"
theorem Ky:Option.map qD ((ev (Pg (fe [23,37]) sp sl r) 20).e (.call (.glb ib) [(.call (.glb oO) [(.loc cU),(.cst (.str (S [99,97,116])))])]) 3 ⟨[R,eg 2,.list true os,.frame (xT nd)],[.k (.obj 4) [R,eg 2,.list true os,.frame (xT nd),.list true xs],.k (.obj 5) [R,eg 2,.list true os,.frame (xT nd),.list true xs,.list true ys]],[]⟩)=some (V.obj 5,[R,eg 2,O.list true os,O.frame (xT nd),O.list true xs,O.list true ys],[sp 37 [.obj 4] [R,eg 2,O.list true os,O.frame (xT nd),O.list true xs] (V.obj 5) [R,eg 2,O.list true os,O.frame (xT nd),O.list true xs,O.list true ys],sp 23 [nd,.str false (S [99,97,116])] [R,eg 2,O.list true os,O.frame (xT nd)] (V.obj 4) [R,eg 2,O.list true os,O.frame (xT nd),O.list true xs]]):=by
 walk_at"k"
theorem LU:TS sp sl r [0,1,2,3] [] 20 (d0 pH) 2 ⟨[R,P,.frame (IN (.tup (.str true kd::tl))),.list true xs],[.b false],[]⟩ Fl.next [R,P,O.frame (IN (.tup (.str true kd::tl))),O.list true (xs++[V.tup (V.str true kd::tl)])] [List.length xs<2^20,gG kd [S [106,117,109,112],S [115,112,108,105,116]]=false]:=by
 walk_at"k"
theorem Nr:TC sp sl r [0,1,3] [] 20 93 [.obj 1] ⟨[R,P],[.l .next [R,P,.frame G4,.list true xs]],[]⟩ (.obj 3) [R,P,.list true xs] [sl pH 2 [R,P,O.frame (G4),O.list true []] Fl.next [R,P,O.frame (G4),O.list true xs]]:=by
 walk_at"k"
theorem Nh(sp:jC)(sl:jz)(r:Nat)(R:O)(nd:V)(os ys:List V):TC sp sl r [0,6] [65,93] 30 100 [nd] ⟨[R],[.k .none [R,.frame [(cU,nd),(mR,.obj 2)],eg 4,.frame [(cV,.obj 2)],.list true os],.k (.obj 6) [R,.frame [(cU,nd),(mR,.obj 2)],eg 4,.frame [(cV,.obj 2)],.list true (os++[.tup [.str false gu]]),.frame [(cV,.obj 2),(dS,.tup [.str false gu])],.list true ys]],[]⟩ (.obj 6) [R,.list true ys] [sp 93 [.obj 4] [R,O.frame [(0,nd),(36,V.obj 2)],eg 4,O.frame [(10,V.obj 2)],O.list true (os++[V.tup [V.str false (S [100,111,110,101])]]),O.frame [(10,V.obj 2),(12,V.tup [V.str false (S [100,111,110,101])])]] (V.obj 6) [R,O.frame [(0,nd),(36,V.obj 2)],eg 4,O.frame [(10,V.obj 2)],O.list true (os++[V.tup [V.str false gu]]),O.frame [(10,V.obj 2),(12,V.tup [V.str false gu])],O.list true ys],List.length (os++[V.tup [V.str false (S [100,111,110,101])]])<2^20,List.length os<2^20,sp 65 [.obj 2,nd] [R,O.frame [(0,nd),(36,V.obj 2)],eg 4,O.frame [(10,V.obj 2)],O.list true []] V.none [R,O.frame [(0,nd),(36,V.obj 2)],eg 4,O.frame [(10,V.obj 2)],O.list true os]]:=by
 walk_at"k"
theorem K7:TC sp sl r [0,1,2,3,4] [100,531] 20 538 [nd,.str true s,.bool an,.obj 1] ⟨[R,cX lim st,D,.list true [],L],[.k (.obj 6) [R,cX lim st,D,.list true [],L,.frame [(cU,nd),(cS,.str true s),(cT,.bool an),(dt,.obj 1)],.list true ys],.k .none [R,H1,D1,.list true [],L1,.frame [(cU,nd),(cS,.str true s),(cT,.bool an),(dt,.obj 1)],.list true ys]],[]⟩ .none [R,H1,D1,.list true [],L1] [sp 531 [.obj 6,.str true s,.bool an,.obj 1] [R,cX lim st,D,O.list true [],L,O.frame [(0,nd),(75,V.str true s),(132,V.bool an),(67,V.obj 1)],O.list true ys] V.none [R,H1,D1,O.list true [],L1,O.frame [(0,nd),(75,V.str true s),(132,V.bool an),(67,V.obj 1)],O.list true ys],sp 100 [nd] [R,cX lim st,D,O.list true [],L,O.frame [(0,nd),(75,V.str true s),(132,V.bool an),(67,V.obj 1)]] (V.obj 6) [R,cX lim st,D,O.list true [],L,O.frame [(0,nd),(75,V.str true s),(132,V.bool an),(67,V.obj 1)],O.list true ys]]:=by
 walk_at"k"
theorem KA:TC sp sl r [0,1,2,3,4,7] [100,531] 20 538 [nd,.str true s,.bool an,.obj 1] ⟨[R,cX lim st,D,.list true [],L],[.k (.obj 6) [R,cX lim st,D,.list true [],L,.frame [(cU,nd),(cS,.str true s),(cT,.bool an),(dt,.obj 1)],.list true ys],.k (.tup [.int true j,.int true e,.obj 7]) [R,H1,D1,.list true [],L1,.frame [(cU,nd),(cS,.str true s),(cT,.bool an),(dt,.obj 1)],.list true ys,.list true zs]],[]⟩ (.tup [.int true j,.int true e,.obj 7]) [R,H1,D1,.list true [],L1,.list true zs] [sp 531 [.obj 6,.str true s,.bool an,.obj 1] [R,cX lim st,D,O.list true [],L,O.frame [(0,nd),(75,V.str true s),(132,V.bool an),(67,V.obj 1)],O.list true ys] (V.tup [V.int true j,V.int true e,V.obj 7]) [R,H1,D1,O.list true [],L1,O.frame [(0,nd),(75,V.str true s),(132,V.bool an),(67,V.obj 1)],O.list true ys,O.list true zs],sp 100 [nd] [R,cX lim st,D,O.list true [],L,O.frame [(0,nd),(75,V.str true s),(132,V.bool an),(67,V.obj 1)]] (V.obj 6) [R,cX lim st,D,O.list true [],L,O.frame [(0,nd),(75,V.str true s),(132,V.bool an),(67,V.obj 1)],O.list true ys]]:=by
 walk_at"k"
theorem KG:Option.map (tj [0,1,2,3,4]) ((tP (Pg (fe [100,531]) sp sl r) (Rg (fe [531]) rsp rsl) 20).c 538 [nd,.str true s,.bool an,.obj 1] ⟨[R,cX lim st,D,.list true [],L],[.k (.obj 6) [R,cX lim st,D,.list true [],L,.frame [(cU,nd),(cS,.str true s),(cT,.bool an),(dt,.obj 1)],.list true ys],.r [R,H1,D1,.list true [],L1,.frame [(cU,nd),(cS,.str true s),(cT,.bool an),(dt,.obj 1)],.list true ys]],[]⟩)=some (List.map some [R,H1,D1,O.list true [],L1],[rsp 531 [.obj 6,.str true s,.bool an,.obj 1] [R,cX lim st,D,O.list true [],L,O.frame [(0,nd),(75,V.str true s),(132,V.bool an),(67,V.obj 1)],O.list true ys] [R,H1,D1,O.list true [],L1,O.frame [(0,nd),(75,V.str true s),(132,V.bool an),(67,V.obj 1)],O.list true ys],sp 100 [nd] [R,cX lim st,D,O.list true [],L,O.frame [(0,nd),(75,V.str true s),(132,V.bool an),(67,V.obj 1)]] (V.obj 6) [R,cX lim st,D,O.list true [],L,O.frame [(0,nd),(75,V.str true s),(132,V.bool an),(67,V.obj 1)],O.list true ys]]):=by
 walk_at"k"
end
def IG(l:Lf):Prop:=∃kd tl,jc 0 l= .tup (.str true kd::tl)/\kd≠fO/\(iz l=none->kd≠dM)/\∀t,iz l=some t->kd=dM/\tl=[.str true t]/\t≠S []/\t.length=1
theorem wi{l:Lf}{kd:Str}{tl:List V}(e:jc 0 l= .tup (.str true kd::tl))(n:iz l=none)(h:kd≠fO)(k:kd≠dM):IG l:=⟨kd,tl,e,h,λI=>k,λt z=>by rw[n] at z;injection z⟩
theorem Lk{l:Lf}{t:Str}(e:jc 0 l= .tup [.str true dM,.str true t])(n:iz l=some t)(h:t≠S [])(k:t.length=1):IG l:=
 ⟨dM,[.str true t],e,by decide,λz=>by rw[n] at z;injection z,λu z=>by rw[n] at z;injection z with z;exact⟨rfl,z▸rfl,z▸h,z▸k⟩⟩
theorem Kg(l:Lf):IG l:=by
 cases l with
 |suc=>exact wi rfl rfl () ()
 |part p=>
  cases p with
  |cur=>exact wi rfl rfl () ()
  |mk m b=>
   cases m with
   |now=>exact wi rfl rfl () ()
   |later=>exact wi rfl rfl () ()
   |bare=>cases b<;>first | exact wi rfl rfl () () | exact Lk rfl rfl () ()
theorem pK(l:Lf):∃kd tl,jc 0 l= .tup (.str true kd::tl)/\kd≠fO/\(iz l=none->kd≠dM)/\∀t,iz l=some t->kd=dM/\tl=[.str true t]/\t≠S []/\t.length=1:=Kg l
section
variable{f:Nat->Option Nat} {r r':Nat}
theorem RV.lf(h:f r=some r')(l:Lf):RV f (jc r l) (jc r' l):=by
 cases l with
 |part p=>exact .part h p
 |suc=>exact .t (.k .s .z)
theorem RV.nd{f:Nat->Option Nat}{r r':Nat}(h:f r=some r'):∀n:Nd,RV f (d6 r n) (d6 r' n)
 | .lf l=>.lf h l
 | .cat a b=>.t (.k .s (.k (RV.nd h a) (.k (RV.nd h b) .z)))
theorem RVs.lfs(h:f r=some r')(l:List Lf):RVs f (l.map (jc r)) (l.map (jc r')):=.map' l λx I=>.lf h x
theorem RV.pc(h:f r=some r')(p:Pc):RV f (kI r p) (kI r' p):=by
 cases p with
 |txt s=>exact .t (.k .s (.k .s .z))
 |lf l=>exact .lf h l
theorem RVs.pcs(h:f r=some r')(l:List Pc):RVs f (l.map (kI r)) (l.map (kI r')):=.map' l λx I=>.pc h x
theorem RVs.nds(h:f r=some r')(l:List Nd):RVs f (l.map (d6 r)) (l.map (d6 r')):=.map' l λx I=>.nd h x
theorem RVs.ords(h:f r=some r')(l:List fz):RVs f (l.map (ordV r)) (l.map (ordV r')):=.map' l λx I=>.ord h x
def fZ:Nd->Nat
 | .lf _=>1
 | .cat a b=>fZ a+fZ b+1
def jS:List Nd->Nat
 |[]=>0
 |n::r=>fZ n+jS r
theorem m8:∀n:Nd,(eI n).length<=fZ n
 | .lf _=>ao _
 | .cat a b=>by
  have:=m8 a;have:=m8 b;show(eI a++eI b).length<=fZ a+fZ b+1;rw[ai];omega
theorem CY:∀l:List Nd,l.length<=jS l
 |[]=>ao _
 |n::r=>by
  have:=CY r;have:1<=fZ n:=by cases n<;>simp only[fZ]<;>omega
  show r.length+1<=fZ n+jS r;omega
end
nonrec theorem F6{b:Bs}{R:O}{nd:Nd}(G:dI b)(hR:∀f,RO f R R)(hn:fZ nd<1000):Ct b 40 23 [d6 0 nd,.str false fO] [R] (.obj 1) [R,.list true ((eI nd).map (jc 0))]:=by
 have L:dL ((C b).at (20+0)) (λI I I=>True) False jY 1 [R,.frame (AP (d6 0 nd) (.str false fO)),.list true [],.list true [d6 0 nd]] (λfl σ=>fl= .next/\σ=[R,.frame (AP (d6 0 nd) (.str false fO)),.list true ((eI nd).map (jc 0)),.stk [] []]) (λI=>False):=by
  refine dL.entry (H':=[R,.frame (AP (d6 0 nd) (.str false fO)),.list true [],.stk [d6 0 nd] []]) (dg.to (l:=[0,1,2,3]) rfl rfl
   (.k (hR _) (.k (.f (.k rfl (.nd (by rfl) nd) (.k rfl .s (.k rfl (.o (by rfl)) (.k rfl (.o (by rfl)) .z))))) (.k (.l .z) (.k (.toStk (.k (.nd (by rfl) nd) .z)) .z))))) ?_
  show dL _ _ _ (.while (.cmp .Gt (.call (.glb fW) [(.loc jO)]) (.cst (.int 0))) (d0 jY)) _ _ _ _;refine oo (c:=C b) (r:=0) (n:=20) (k:=4) (orc:=fe []) (orc':=fe []) G.X G.F (dD G ()) (dD G ()) (ao _)
   (λN σ=>∃w f,N=jS w/\σ=[R,.frame (AP (d6 0 nd) (.str false fO)),.list true (f.map (jc 0)),.stk (w.map (d6 0)) []]/\f++w.flatMap eI=eI nd/\jS w<1000/\f.length+jS w<1000) (λN σ hI=>?_) (jS [nd]) ⟨[nd],[],rfl,rfl,by simp,by simpa[jS] using hn,by simpa[jS] using hn⟩
  obtain⟨w,f,rfl,rfl,h1,h2,h3⟩:=hI;cases w with
  |nil=>
   have h1:f++[]=eI nd:=h1;rw[aQ] at h1;subst h1;exact⟨[.b false],false,⟨_,[],[decide ((0:Int)<((0+0:Nat):Int))=false,0+0<2^62]⟩,rfl,gh (l:=[decide ((0:Int)<((0+0:Nat):Int))=false,0+0<2^62]) ⟨by decide,by decide,N4⟩,⟨some,dg.id ⟨rfl,rfl⟩⟩⟩
  |cons a w=>
   have sl:=CY (a::w);have wl:(w.map (d6 0)).length+1<1000:=by rw[af];have:w.length+1<=jS (a::w):=sl;omega
   have fl:(f.map (jc 0)).length<2^20:=by rw[af];omega
   refine⟨[.b true],true,⟨_,[],[decide ((0:Int)<((0+((a::w).map (d6 0)).length:Nat):Int))=true,0+((a::w).map (d6 0)).length<2^62]⟩,rfl,gh (l:=[decide ((0:Int)<((0+((a::w).map (d6 0)).length:Nat):Int))=true,0+((a::w).map (d6 0)).length<2^62])
    ⟨av (by simp only[List.map_cons,bJ];omega),by simp only[List.map_cons,bJ];omega,N4⟩,?_⟩
   have frR:FrR (fb [0,1,2,3]) (AP (d6 0 nd) (.str false fO)) (AP (d6 0 nd) (.str false fO)):=.k rfl (.nd (by rfl) nd) (.k rfl .s (.k rfl (.o (by rfl)) (.k rfl (.o (by rfl)) .z)));cases a with
   |cat p q=>
    have h2:fZ p+fZ q+1+jS w<1000:=h2;refine eS [0,1,2,3] (GY ..) ⟨by show 0+(w.map (d6 0)).length+2<2^20;omega,by decide,by show 0+((w.map (d6 0)).length+1)<2^20;omega,N4⟩
     (H':=[R,.frame (AP (d6 0 nd) (.str false fO)),.list true (f.map (jc 0)),.stk ((p::q::w).map (d6 0)) []]) (.k (hR _) (.k (.f (.k rfl (.nd (by rfl) nd) (.k rfl .s (.k rfl (.o (by rfl)) (.k rfl (.o (by rfl)) .z))))) (.k (.l (.lfs (by rfl) f)) (.k (.y (.nds (by rfl) (p::q::w))) .z))))
     ⟨jS (p::q::w),by show fZ p+(fZ q+jS w)<fZ p+fZ q+1+jS w;omega,p::q::w,f,rfl,rfl,by
      rw[<-h1];show f++(eI p++(eI q++w.flatMap eI))=f++((eI p++eI q)++w.flatMap eI);rw[aw],by show fZ p+(fZ q+jS w)<1000;omega,by
      have h3:f.length+(fZ p+fZ q+1+jS w)<1000:=h3;show f.length+(fZ p+(fZ q+jS w))<1000;omega⟩
   |lf l=>
    obtain⟨kd,tl,e,k1,_⟩:=pK l;have h2:1+jS w<1000:=h2;have h3:f.length+(1+jS w)<1000:=h3;have el:d6 0 (.lf l)= .tup (.str true kd::tl):=e;have er:jc 0 l= .tup (.str true kd::tl):=e;show iE _ _ _ _ _ _ _ _ _ _ [R,.frame (AP (d6 0 nd) (.str false fO)),.list true (f.map (jc 0)),.stk (d6 0 (.lf l)::w.map (d6 0)) []] _ _ _;rw[el];refine eS [0,1,2,3] (IV ..) ⟨fl,ag k1,by show 0+((w.map (d6 0)).length+1)<2^20;omega,N4⟩
     (H':=[R,.frame (AP (d6 0 nd) (.str false fO)),.list true ((f++[l]).map (jc 0)),.stk (w.map (d6 0)) []]) (.k (hR _) (.k (.f (.k rfl (.nd (by rfl) nd) (.k rfl .s (.k rfl (.o (by rfl)) (.k rfl (.o (by rfl)) .z))))) (.k (.l ?_) (.k (.y (.nds (by rfl) w)) .z))))
     ⟨jS w,by show jS w<1+jS w;omega,w,f++[l],rfl,rfl,by rw[<-h1,aw];rfl,by omega,by rw[ai];show f.length+1+jS w<1000;omega⟩
    rw[bn,<-er];exact(RVs.lfs (by rfl) f).app' (.k (.lf (by rfl) l) .z)
 refine dF G (r:=20) (n:=20) (l₀:=[]) [0,2] (Nn _ _ _ R (d6 0 nd) [] ((eI nd).map (jc 0))) ⟨dL.normal L,N4⟩ (.k (hR _) (.k (.l (.lfs (by rfl) _)) .z)) (.o rfl)
theorem FrR.J{f:Nat->Option Nat}{v:V}(h1:f 1=some 1)(h3:f 3=some 3):FrR f (tA v) B4:=.k rfl (.o h1) (.k rfl (.o h3) .z)
nonrec theorem JP{b:Bs}{R:O}{ls:List Lf}(G:dI b)(hR:∀f,RO f R R)(hn:ls.length<1000):Ct b 40 37 [.obj 1] [R,.list true (ls.map (jc 0))] (.obj 2) [R,.list true (ls.map (jc 0)),.list true ((eQ ls).map (kI 0))]:=by
 have hP:∀{f:Nat->Option Nat},f 0=some 0->RO f (.list true (ls.map (jc 0))) (.list true (ls.map (jc 0))):=λh=>.l (.lfs h ls);have L:dL ((C b).at (20+0)) (λI I I=>True) False i7 2 [R,.list true (ls.map (jc 0)),.frame B4,.list true []] (λfl σ=>fl= .next/\σ=[R,.list true (ls.map (jc 0)),.frame B4,.stk ((ls.foldl eX []).map (kI 0)) []]) (λI=>False):=by
  refine dL.entry (H':=[R,.list true (ls.map (jc 0)),.frame B4,.stk [] []]) (dg.to (l:=[0,1,2,3]) rfl rfl
   (.k (hR _) (.k (hP (by rfl)) (.k (.f (.k rfl (.o (by rfl)) (.k rfl (.o (by rfl)) .z))) (.k (.toStk .z) .z))))) ?_
  show dL _ _ _ (.for dU (.loc io) (d0 i7)) _ _ _ _;refine rN (c:=C b) (r:=0) (n:=20) (k:=4) (N2:=.lst 1 (ls.map (jc 0))) (orc:=fe []) (orc':=fe []) G.X G.F (dD G ()) (dD G ()) (ao _)
   (kK G.X G.F (dD G (l:=[]) ()) (st:=⟨[R,.list true (ls.map (jc 0)),.frame B4,.stk [] []],[],[]⟩) (y:=true) rfl (λI m=>by cases m) rfl) (by intro z;cases z)
   (λj σ=>∃B',σ=[R,.list true (ls.map (jc 0)),.frame B4,.stk (B'.map (kI 0)) []]/\(ls.drop j).foldl eX B'=ls.foldl eX []/\B'.length<=j/\(∀t,.txt t∈B'->t.length<=j)/\∀l,.lf l∈B'->iz l=none) ⟨[],rfl,rfl,ao _,(λt m=>by cases m),λt m=>by cases m⟩
   (λi xs z=>by cases z;decide) (λj σ hI=>?_) (λj σ v hI hv=>?_) (λσ hI=>?_)
  .obtain⟨B',rfl,_⟩:=hI
   exact⟨true,rfl⟩
  .obtain⟨B',rfl,h1,h2,h3,h4⟩:=hI
   have hv:nth (ls.map (jc 0)) j=some v:=hv;rw[jH] at hv;obtain⟨l,el,rfl⟩:=aq.mp hv;have hj:j<ls.length:=fR el;rw[uZ el] at h1;have h1:(ls.drop (j+1)).foldl eX (eX B' l)=ls.foldl eX []:=h1;have big:=dv;refine⟨⟨[R,.list true (ls.map (jc 0)),.frame (tA (jc 0 l)),.stk (B'.map (kI 0)) []],[],[]⟩,rfl,?_⟩;obtain⟨kd,tl,e,_,k2,k3⟩:=pK l;have al:(B'.map (kI 0)).length<=j:=by rw[af];exact h2
   cases tx:iz l with
   |none=>
    have st:=iu (B':=B') tx;rw[st] at h1;rw[e];refine eS [0,1,2,3] (FG ..) ⟨by show 0+_<_;omega,ag (k2 tx),N4⟩
     (H':=[R,.list true (ls.map (jc 0)),.frame B4,.stk ((.lf l::B').map (kI 0)) []]) (.k (hR _) (.k (hP (by rfl)) (.k (.f (.J (by rfl) (by rfl))) (.k (.y ?_) .z))))
     ⟨.lf l::B',rfl,h1,aC h2,(λt m=>by
      rcases aD.mp m with z | m
      .injection z
      .exact aG (h3 t m)),λl' m=>by
      rcases aD.mp m with z | m
      .cases z;exact tx
      .exact h4 l' m⟩
    rw[<-e];exact .k (.lf (by rfl) l) (.pcs (by rfl) B')
   |some t=>
    obtain⟨rfl,rfl,t0,t1⟩:=k3 t tx;rw[e];cases B' with
    |nil=>
     have st:eX [] l=[.txt t]:=gq tx;rw[st] at h1;exact eS [0,1,2,3] (BO ..) ⟨by decide,by decide,by decide,ag t0,by decide,N4⟩
      (H':=[R,.list true (ls.map (jc 0)),.frame B4,.stk ([Pc.txt t].map (kI 0)) []]) (.k (hR _) (.k (hP (by rfl)) (.k (.f (.J (by rfl) (by rfl))) (.k (.y (RVs.pcs (r:=0) (r':=0) (by rfl) [Pc.txt t])) .z))))
      ⟨[.txt t],rfl,h1,by simp,(λu m=>by
       have:u=t:=by simpa using m
       rw[this,t1];omega),λl' m=>by simp at m⟩
    |cons q B'=>
     have al:(B'.map (kI 0)).length+1<=j:=by simpa using al
     cases q with
     |txt u=>
      have st:eX (.txt u::B') l= .txt (u++t)::B':=gq tx;rw[st] at h1;have ul:=h3 u (.head _);have utl:(u++t).length=u.length+t.length:=by show(u.cps++t.cps).size=_;rw[cK];rfl
      exact eS [0,1,2,3] (IM ..) ⟨by show 0+_<_;omega,by omega,by show 0+(_+1)<_;omega,by decide,⟨by show((0+((B'.map (kI 0)).length+1):Nat):Int) - 1=((0+(B'.map (kI 0)).length:Nat):Int);omega,by show((0+((B'.map (kI 0)).length+1):Nat):Int) - 1<2^62;omega⟩,by show 0+(_+1)<_;omega,av (by show(0:Int)<((0+((B'.map (kI 0)).length+1):Nat):Int);omega),by show 0+(_+1)<_;omega,ag t0,by decide,N4⟩
       (H':=[R,.list true (ls.map (jc 0)),.frame B4,.stk ((Pc.txt (u++t)::B').map (kI 0)) []]) (.k (hR _) (.k (hP (by rfl)) (.k (.f (.J (by rfl) (by rfl))) (.k (.y (.k (.t (.k .s (.k .s .z))) (.pcs (by rfl) B'))) .z))))
       ⟨.txt (u++t)::B',rfl,h1,aG h2,(λv m=>by
        rcases aD.mp m with z | m
        .cases z;rw[utl];omega
        .exact aG (h3 v (.tail _ m))),λl' m=>by
        rcases aD.mp m with z | m
        .injection z
        .exact h4 l' (.tail _ m)⟩
     |lf l2=>
      have st:eX (.lf l2::B') l= .txt t:: .lf l2::B':=gq tx;rw[st] at h1;obtain⟨kd2,tl2,e2,_,k5,_⟩:=pK l2;have hk:kd2≠dM:=k5 (h4 l2 (.head _));show iE _ _ _ _ _ _ _ _ _ _ [R,.list true (ls.map (jc 0)),.frame (tA (.tup [.str true dM,.str true t])),.stk (jc 0 l2::B'.map (kI 0)) []] _ _ _;rw[e2];refine eS [0,1,2,3] (I0 ..) ⟨by show 0+(_+1)<_;omega,ag hk,⟨by show((0+((B'.map (kI 0)).length+1):Nat):Int) - 1=((0+(B'.map (kI 0)).length:Nat):Int);omega,by show((0+((B'.map (kI 0)).length+1):Nat):Int) - 1<2^62;omega⟩,by show 0+(_+1)<_;omega,av (by show(0:Int)<((0+((B'.map (kI 0)).length+1):Nat):Int);omega),by show 0+(_+1)<_;omega,ag t0,by decide,N4⟩
       (H':=[R,.list true (ls.map (jc 0)),.frame B4,.stk ((Pc.txt t:: .lf l2::B').map (kI 0)) []]) (.k (hR _) (.k (hP (by rfl)) (.k (.f (.J (by rfl) (by rfl))) (.k (.y (.k (.t (.k .s (.k .s .z))) (.k ?_ (.pcs (by rfl) B')))) .z))))
       ⟨.txt t:: .lf l2::B',rfl,h1,aC h2,(λv m=>by
        rcases aD.mp m with z | m
        .cases z;omega
        .exact aG (h3 v m)),λl' m=>by
        rcases aD.mp m with z | m
        .injection z
        .exact h4 l' m⟩
      rw[<-e2];exact .lf (by rfl) l2
  .obtain⟨B',rfl,h1,h2,h3,h4⟩:=hI
   have:ls.drop (qX.lst 1 (ls.map (jc 0))).len=[]:=by
    show ls.drop (ls.map (jc 0)).length=[]
    rw[af,List.drop_length]
   rw[this] at h1;have h1:B'=ls.foldl eX []:=h1;refine⟨some,dg.id ?_⟩;rw[<-h1];exact⟨rfl,rfl⟩
 refine dF G (r:=20) (n:=20) (l₀:=[]) [0,1,3] (Ni ..) ⟨dL.normal L,N4⟩ (.k (hR _) (.k (hP (by rfl)) (.k (.unStk ?_) .z))) (.o rfl);rw[<-List.map_reverse];exact .pcs (by rfl) _
/-! putting a piece -/
def xh(b:gC):V:=.tup (.str false (pW b)::DO b)
def pcW:Pc->V
 | .txt s=>.tup [.str false dM,.str true s]
 | .lf .suc=>.tup [.str false gz]
 | .lf (.part .cur)=>.tup [.str false fI,.obj 0]
 | .lf (.part (.mk .bare b))=>xh b
 | .lf (.part (.mk .now b))=>.tup [.str false nB,xh b,.obj 0]
 | .lf (.part (.mk .later b))=>.tup [.str false hZ,xh b,.obj 0]
section
variable{f:Nat->Option Nat} {os:List fz} {b:Bs} {R:O}
theorem RVs.tl(b:gC):RVs f (DO b) (DO b):=by
 cases b<;>first | exact .z | exact .k .s .z | exact .k .i .z
theorem RV.pcW(h:f 0=some 0)(p:Pc):RV f (kI 0 p) (pcW p):=by
 cases p with
 |txt s=>exact .t (.k .s (.k .s .z))
 |lf l=>
  cases l with
  |suc=>exact .t (.k .s .z)
  |part p=>
   cases p with
   |cur=>exact .t (.k .s (.k (.o h) .z))
   |mk m b=>
    cases m with
    |bare=>exact .t (.k .s (.tl b))
    |now=>exact .t (.k .s (.k (.t (.k .s (.tl b))) (.k (.o h) .z)))
    |later=>exact .t (.k .s (.k (.t (.k .s (.tl b))) (.k (.o h) .z)))
theorem RV.ordWV{r r':Nat}(h:f r=some r')(o:fz):RV f (Internal.ordW r o) (Internal.ordV r' o):=.t (.k .s (.ordTl h o))
theorem RVs.more(h:f 0=some 0){l:List fz}{vs:List V}(k:RVs f vs (l.map (ordV 0))):RVs f (os.map (ordV 0)++vs) ((os++l).map (ordV 0)):=by
 rw[bn];exact(RVs.ords h os).app' k
def IL:List V->List V->List V
 |os,[]=>os
 |os,v::l=>IL (os++[v]) l
def II:List V->List V->List Prop
 |_,[]=>[]
 |os,v::l=>II (os++[v]) l++[(os++[v]).length<2^20,os.length<2^20]
theorem KW(sp:jC)(sl:jz)(r:Nat)(R:O)(os:List V)(p:Pc):TC sp sl r [0,1,2] [] 40 65 [.obj 1,pcW p] ⟨[R,eg 2,.list true os],[],[]⟩ .none [R,eg 2,.list true (IL os ((eO p).map (ordW 0)))] (II os ((eO p).map (ordW 0))):=by
 cases p with
 |txt s=>walk_at"k"
 |lf l=>
  cases l with
  |suc=>walk_at"k"
  |part p=>
   cases p with
   |cur=>walk_at"k"
   |mk m b=>cases m<;>cases b<;>walk_at"k"
theorem Ax:∀{l os:List V},os.length+l.length<2^20->jv (II os l)
 |[],_,_=>trivial
 |v::l,os,h=>by
  have e:(os++[v]).length=os.length+1:=ai;have h:os.length+(l.length+1)<2^20:=h;have k:(os++[v]).length+l.length<2^20:=by rw[e,bF];exact h
  have k1:=bw (aA _ _) k;exact kJ (Ax k) ⟨k1,bw (aA _ _) h,N4⟩
theorem xJ:∀(l os:List V),IL os l=os++l
 |[],os=>(aQ os).symm
 |v::l,os=>(xJ l (os++[v])).trans (aw os [v] l)
theorem sZ(p:Pc):(eO p).length<=3:=by
 cases p with
 |txt s=>show 1<=3;decide
 |lf l=>
  cases l with
  |suc=>show 1<=3;decide
  |part p=>
   cases p with
   |cur=>show 1<=3;decide
   |mk m b=>cases m<;>first | (show 1<=3;decide) | (show 3<=3;decide)
theorem Ly(G:dI b)(hR:∀f,RO f R R)(ho:os.length<900)(p:Pc):Ct b 40 65 [.obj 1,pcW p] [R,eg 2,.list true (os.map (ordV 0))] .none [R,eg 2,.list true ((os++eO p).map (ordV 0))]:=by
 refine cr G _ (KW ..) (Ax ?_) (.k (hR _) (.k (.x (.k (.o rfl) .z)) (.k (.l ?_) .z))) .n
 .rw[af,af]
  exact aH (Nat.add_lt_add_of_lt_of_le ho (sZ p)) ()
 .rw[xJ]
  exact .more (by rfl) (.map' (eO p) λo I=>.ordWV (by rfl) o)
theorem FQ(G:dI b)(hR:∀f,RO f R R){nd:Nd}(hn:fZ nd<1000){σ:List O}(h0:nth σ 0=some R):Ct b 40 23 [d6 0 nd,.str false fO] σ (.obj σ.length) (fG σ [0] [R]++[.list true ((eI nd).map (jc 0))]):=
 fJ.frame (l:=[0]) (os:=σ) (I':=[R]) (news:=[R,.list true ((eI nd).map (jc 0))]) (vs:=[d6 0 nd,.str false fO]) (w:=.obj σ.length) rfl (F6 G hR hn) (by simp [h0]) ()
  (.k (hR _) .z) (.k (.nd (by rfl) nd) (.k .s .z)) (.k (hR _) (.k (.l (.lfs (by rfl) _)) .z)) (.o (by unfold back;simp [nth]))
theorem Jh(G:dI b)(hR:∀f,RO f R R){ls:List Lf}(hn:ls.length<1000){σ:List O}(h0:nth σ 0=some R)(h4:nth σ 4=some (.list true (ls.map (jc 0)))):Ct b 40 37 [.obj 4] σ (.obj σ.length) (fG σ [0,4] [R,.list true (ls.map (jc 0))]++[.list true ((eQ ls).map (kI 0))]):=
 fJ.frame (l:=[0,4]) (os:=σ) (I':=[R,.list true (ls.map (jc 0))]) (news:=[R,.list true (ls.map (jc 0)),.list true ((eQ ls).map (kI 0))]) (vs:=[.obj 4]) (w:=.obj σ.length) rfl (JP G hR hn) (by simp [h0,h4]) ()
  (.k (hR _) (.k (.l (.lfs (by rfl) _)) .z)) (.k (.o rfl) .z) (.k (hR _) (.k (.l (.lfs (by rfl) _)) (.k (.l (.pcs (by rfl) _)) .z))) (.o (by unfold back;simp [nth]))
theorem Ki(G:dI b)(hR:∀f,RO f R R)(ho:os.length<900)(p:Pc)(tl:List O):Ct b 40 65 [.obj 1,kI 0 p] ([R,eg 2,.list true (os.map (ordV 0))]++tl) .none ([R,eg 2,.list true ((os++eO p).map (ordV 0))]++tl):=by
 have q:=fJ.frame (l:=[0,1,2]) (os:=[R,eg 2,.list true (os.map (ordV 0))]++tl) (I':=[R,eg 2,.list true (os.map (ordV 0))]) (news:=[R,eg 2,.list true ((os++eO p).map (ordV 0))]) (vs:=[.obj 1,kI 0 p]) (w:=.none) rfl (Ly G hR ho p) rfl ()
  (.k (hR _) (.k (.x (.k (.o rfl) .z)) (.k (.l (.ords (by rfl) _)) .z))) (.k (.o rfl) (.k (.pcW (by rfl) p) .z))
  (.k (hR _) (.k (.x (.k (.o rfl) .z)) (.k (.l (.ords (by rfl) _)) .z))) .n
 have q':Ct b 40 65 [.obj 1,kI 0 p] ([R,eg 2,.list true (os.map (ordV 0))]++tl) .none (([R,eg 2,.list true ((os++eO p).map (ordV 0))]++tl)++[]):=q;rw[aQ] at q';exact q'
theorem gY:∀l:List Pc,(l.flatMap eO).length<=3*l.length
 |[]=>ao _
 |p::l=>by
  have:=sZ p;have:=gY l;show(eO p++l.flatMap eO).length<=3*(l.length+1);rw[ai];omega
theorem BR(B':List Pc)(l:Lf):(eX B' l).length<=B'.length+1:=by
 cases tx:iz l with
 |none=>rw[iu tx];exact ao _
 |some t=>
  rw[gq tx];cases B' with
  |nil=>exact ao _
  |cons q r=>
   cases q with
   |txt u=>exact au _
   |lf l=>exact ao _
theorem ub:∀(ls:List Lf) (B':List Pc),(ls.foldl eX B').length<=B'.length+ls.length
 |[],_=>ao _
 |l::ls,B'=>by
  have:=ub ls (eX B' l);have:=BR B' l;show(ls.foldl eX (eX B' l)).length<=B'.length+(ls.length+1);omega
theorem m6(ls:List Lf):(eQ ls).length<=ls.length:=by
 have:=ub ls [];show(ls.foldl eX []).reverse.length<=_;rw[bL];simpa using this
theorem qk{α β:Type}(g:α->List β):∀{l:List α} {j:Nat} {x:α},nth l j=some x->(l.take (j+1)).flatMap g=(l.take j).flatMap g++g x
 |[],_,_,h=>by injection h
 |a::l,0,x,h=>by cases h;show g a++(l.take 0).flatMap g=[]++g a;simp
 |a::l,j+1,x,h=>by
  have:=qk g (l:=l) (j:=j) h;show g a++(l.take (j+1)).flatMap g=(g a++(l.take j).flatMap g)++g x;rw[this,aw]
end
nonrec theorem Ew{b:Bs}{R:O}{os:List fz}{p q:Nd}(G:dI b)(hR:∀f,RO f R R)(ho:os.length<100)(hn:fZ (.cat p q)<100):Ct b 80 65 [.obj 1,d6 0 (.cat p q)] [R,eg 2,.list true (os.map (ordV 0))] .none [R,eg 2,.list true ((os++(eQ (eI (.cat p q))).flatMap eO).map (ordV 0))]:=by
 generalize hnd:Nd.cat p q=nd at hn;have hsz:=m8 nd;have hjl:=m6 (eI nd);have hol:=gY (eQ (eI nd));have xr:∀{f:Nat->Option Nat},f 0=some 0->RO f (.list true ((eI nd).map (jc 0))) (.list true ((eI nd).map (jc 0))):=λh=>.l (.lfs h _);have yr:∀{f:Nat->Option Nat},f 0=some 0->RO f (.list true ((eQ (eI nd)).map (kI 0))) (.list true ((eQ (eI nd)).map (kI 0))):=λh=>.l (.pcs h _);have cr:∀{f:Nat->Option Nat},f 2=some 2->RO f (eg 2) (eg 2):=λh=>.x (.k (.o h) .z);have L:dL ((C b).at (20+40)) (λI I I=>True) False pn 3 [R,eg 2,.list true (os.map (ordV 0)),.frame (xT (d6 0 nd))]
   (λfl σ=>fl= .next/\σ=[R,eg 2,.list true ((os++(eQ (eI nd)).flatMap eO).map (ordV 0)),.frame (xT (d6 0 nd)),.list true ((eI nd).map (jc 0)),.list true ((eQ (eI nd)).map (kI 0))]) (λI=>False):=by
  have e:=Ky (Ct b 40) (Lt b 40) 40 R (os.map (ordV 0)) (d6 0 nd) ((eI nd).map (jc 0)) ((eQ (eI nd)).map (kI 0));obtain⟨⟨v,st⟩,e1,e2⟩:=aq.mp e;obtain⟨rfl,e3,e4⟩:v=V.obj 5/\st.os=_/\st.cs=_:=by simpa only[bc] using e2
  have hc:All st.cs:=by
   rw[e4];exact gh ⟨Jh G hR (by omega) rfl rfl,FQ G hR (by omega) rfl,N4⟩
  have hi:=kK G.X G.F (dD G (l:=[23,37]) ()) (r:=40) (n:=20) e1 hc (i:=5) (xs:=(eQ (eI nd)).map (kI 0)) (y:=true) (by rw[e3];rfl);rw[e3] at hi;show dL _ _ _ (.for dU (.call (.glb ib) [(.call (.glb oO) [(.loc cU),(.cst (.str (S [99,97,116])))])]) (d0 pn)) _ _ _ _;refine rN (c:=C b) (r:=40) (n:=20) (k:=6) (orc:=fe [65]) (orc':=fe []) G.X G.F (dD G ()) (dD G ()) (show 4<=6 by decide) hi (by intro z;injection z)
   (λj σ=>σ=[R,eg 2,.list true ((os++((eQ (eI nd)).take j).flatMap eO).map (ordV 0)),.frame (xT (d6 0 nd)),.list true ((eI nd).map (jc 0)),.list true ((eQ (eI nd)).map (kI 0))]) (by rw[List.take_zero,List.flatMap_nil,aQ])
   (λi xs z=>by cases z;decide) (λj σ hI=>by subst hI;exact⟨true,rfl⟩) (λj σ v hI hv=>?_) (λσ hI=>?_)
  .subst hI
   have hv:nth ((eQ (eI nd)).map (kI 0)) j=some v:=hv;rw[jH] at hv;obtain⟨pc,ep,rfl⟩:=aq.mp hv;have hlen:(os++((eQ (eI nd)).take j).flatMap eO).length<900:=by
    have:=gY ((eQ (eI nd)).take j);have:((eQ (eI nd)).take j).length<=(eQ (eI nd)).length:=by rw[cc];omega
    rw[ai];omega
   refine⟨⟨[R,eg 2,.list true ((os++((eQ (eI nd)).take j).flatMap eO).map (ordV 0)),.frame (BJ (d6 0 nd) (kI 0 pc)),.list true ((eI nd).map (jc 0)),.list true ((eQ (eI nd)).map (kI 0))],[],[]⟩,rfl,?_⟩;refine eS [0,1,2,3,4,5] (Gg ..) ⟨Ki G hR hlen pc _,N4⟩
    (H':=[R,eg 2,.list true (((os++((eQ (eI nd)).take j).flatMap eO)++eO pc).map (ordV 0)),.frame (xT (d6 0 nd)),.list true ((eI nd).map (jc 0)),.list true ((eQ (eI nd)).map (kI 0))])
    (.k (hR _) (.k (cr rfl) (.k (.l (.ords (by rfl) _)) (.k (.f (.k rfl (.o (by rfl)) (.k rfl (.nd (by rfl) nd) (.k rfl .s .z)))) (.k (xr (by rfl)) (.k (yr (by rfl)) .z)))))) ?_
   rw[qk eO ep,aw]
  .have hI:σ=[R,eg 2,.list true ((os++((eQ (eI nd)).take ((eQ (eI nd)).map (kI 0)).length).flatMap eO).map (ordV 0)),.frame (xT (d6 0 nd)),.list true ((eI nd).map (jc 0)),.list true ((eQ (eI nd)).map (kI 0))]:=hI
   rw[af,cG] at hI;exact⟨some,dg.id ⟨rfl,hI⟩⟩
 subst hnd;exact dF G (r:=60) (n:=20) (l₀:=[]) [0,1,2] (It ..) ⟨dL.normal L,by decide,N4⟩ (.k (hR _) (.k (cr rfl) (.k (.l (.ords (by rfl) _)) .z))) .n
nonrec theorem Lj{b:Bs}{R:O}{os:List fz}(G:dI b)(hR:∀f,RO f R R)(ho:os.length<1000):Ct b 40 93 [.obj 1] [R,.list true (os.map (ordV 0))] (.obj 2) [R,.list true (os.map (ordV 0)),.list true (os.map (ordV 0))]:=by
 have pr:∀{f:Nat->Option Nat},f 0=some 0->RO f (.list true (os.map (ordV 0))) (.list true (os.map (ordV 0))):=λh=>.l (.ords h _);have L:dL ((C b).at (20+0)) (λI I I=>True) False pH 2 [R,.list true (os.map (ordV 0)),.frame G4,.list true []] (λfl σ=>fl= .next/\σ=[R,.list true (os.map (ordV 0)),.frame G4,.list true (os.map (ordV 0))]) (λI=>False):=by
  show dL _ _ _ (.for dS (.loc dY) (d0 pH)) _ _ _ _;refine rN (c:=C b) (r:=0) (n:=20) (k:=4) (N2:=.lst 1 (os.map (ordV 0))) (orc:=fe []) (orc':=fe []) G.X G.F (dD G ()) (dD G ()) (ao _)
   (kK G.X G.F (dD G (l:=[]) ()) (st:=⟨[R,.list true (os.map (ordV 0)),.frame G4,.list true []],[],[]⟩) (y:=true) rfl (λI m=>by cases m) rfl) (by intro z;cases z)
   (λj σ=>σ=[R,.list true (os.map (ordV 0)),.frame G4,.list true ((os.take j).map (ordV 0))]) (by rw[List.take_zero];rfl)
   (λi xs z=>by cases z;decide) (λj σ hI=>by subst hI;exact⟨true,rfl⟩) (λj σ v hI hv=>?_) (λσ hI=>?_)
  .subst hI
   have hv:nth (os.map (ordV 0)) j=some v:=hv;rw[jH] at hv;obtain⟨od,ep,rfl⟩:=aq.mp hv;have hl:((os.take j).map (ordV 0)).length<2^20:=by rw[af,cc];omega
   have hk:gG (eM od) [S [106,117,109,112],S [115,112,108,105,116]]=false:=by cases od<;>first | decide | (show gG mj _=false;decide)
   refine⟨⟨[R,.list true (os.map (ordV 0)),.frame (IN (ordV 0 od)),.list true ((os.take j).map (ordV 0))],[],[]⟩,rfl,?_⟩;refine eS [0,1,2,3] (LU ..) ⟨hl,hk,N4⟩ (H':=[R,.list true (os.map (ordV 0)),.frame G4,.list true ((os.take j++[od]).map (ordV 0))])
    (.k (hR _) (.k (pr (by rfl)) (.k (.f (.k rfl (.o (by rfl)) (.k rfl (.o (by rfl)) .z))) (.k (.l (.more (by rfl) (.k (.ord (by rfl) od) .z))) .z)))) ?_
   have:=qk (λx:fz=>[x]) ep;have id:∀l:List fz,l.flatMap (λx=>[x])=l:=λl=>by induction l with | nil=>rfl | cons a l ih=>show a::l.flatMap _=_;rw[ih]
   rw[id,id] at this;rw[this]
  .have hI:σ=[R,.list true (os.map (ordV 0)),.frame G4,.list true ((os.take (os.map (ordV 0)).length).map (ordV 0))]:=hI
   rw[af,cG] at hI;exact⟨some,dg.id ⟨rfl,hI⟩⟩
 exact dF G (r:=20) (n:=20) (l₀:=[]) [0,1,3] (Nr ..) ⟨dL.normal L,N4⟩ (.k (hR _) (.k (pr (by rfl)) (.k (pr (by rfl)) .z))) (.o rfl)
nonrec theorem BD{b:Bs}{R:O}{p q:Nd}(G:dI b)(hR:∀f,RO f R R)(hn:fZ (.cat p q)<100):Ct b 110 100 [d6 0 (.cat p q)] [R] (.obj 1) [R,.list true ((eA (.cat p q)).map (ordV 0))]:=by
 have hsz:=m8 (.cat p q);have hjl:=m6 (eI (.cat p q));have hol:=gY (eQ (eI (.cat p q)));generalize hos:(eQ (eI (.cat p q))).flatMap eO=os at hol;have hc:eA (.cat p q)=os++[fz.done]:=by rw[<-hos];rfl
 rw[hc];have T1:=Ew (os:=[]) G hR () hn;rw[hos,cP] at T1;have q1:=fJ.frame (l:=[0,2,4]) (os:=[R,.frame [(cU,d6 0 (.cat p q)),(mR,.obj 2)],eg 4,.frame [(cV,.obj 2)],.list true []]) (I':=[R,eg 4,.list true []]) (news:=[R,eg 4,.list true (os.map (ordV 0))]) (vs:=[.obj 2,d6 0 (.cat p q)]) (w:=.none) rfl T1 rfl ()
  (.k (hR _) (.k (.x (.k (.o rfl) .z)) (.k (.l .z) .z))) (.k (.o rfl) (.k (.nd (by rfl) _) .z)) (.k (hR _) (.k (.x (.k (.o rfl) .z)) (.k (.l (.ords (by rfl) _)) .z))) .n
 have T2:=Lj (os:=os++[fz.done]) G hR (by rw[ai];show os.length+1<1000;omega);have q2:=fJ.frame (l:=[0,4]) (os:=[R,.frame [(cU,d6 0 (.cat p q)),(mR,.obj 2)],eg 4,.frame [(cV,.obj 2)],.list true (os.map (ordV 0)++[.tup [.str false gu]]),.frame [(cV,.obj 2),(dS,.tup [.str false gu])]])
  (I':=[R,.list true (os.map (ordV 0)++[.tup [.str false gu]])]) (news:=[R,.list true (os.map (ordV 0)++[.tup [.str false gu]]),.list true ((os++[fz.done]).map (ordV 0))]) (vs:=[.obj 4]) (w:=.obj 6) rfl T2 rfl ()
  (.k (hR _) (.k (.l (.more (by rfl) (.k (.t (.k .s .z)) .z))) .z)) (.k (.o rfl) .z)
  (.k (hR _) (.k (.l (by rw[bn];exact(RVs.ords (by rfl) os).app' (.k (.t (.k .s .z)) .z))) (.k (.l (.ords (by rfl) _)) .z))) (.o rfl)
 have hl:(os.map (ordV 0)).length<2^20:=by rw[af];omega
 have hl2:(os.map (ordV 0)++[V.tup [.str false gu]]).length<2^20:=by rw[ai,af];show os.length+1<_;omega
 exact dF G (r:=80) (n:=30) (l₀:=[65,93]) [0,6] (Nh ..) ⟨q2.more (),hl2,hl,q1,N4⟩ (.k (hR _) (.k (.l (.ords (by rfl) _)) .z)) (.o rfl)
theorem ru{l:List Nat}{m k:Nat}(h:kj l 0 k):∀i,i<k->back l m i=some i:=λi hi=>by unfold back;rw[fj h i hi]
theorem um:∀(ls:List Lf) (B':List Pc) (k:Nat),(∀t,Pc.txt t∈B'->t.length<=k)->∀t,Pc.txt t∈ls.foldl eX B'->t.length<=k+ls.length
 |[],_,_,h,t,m=>h t m
 |l::ls,B',k,h,t,m=>by
  have:=um ls (eX B' l) (k+1) (λu m=>by
   cases tx:iz l with
   |none=>
    rw[iu tx] at m;rcases aD.mp m with z | m
    .injection z
    .exact aG (h u m)
   |some t1=>
    rw[gq tx] at m;obtain⟨_,_,_,_,_,k3⟩:=pK l;have t1l:=(k3 t1 tx).2.2.2;have one:Pc.txt u= .txt t1->u.length<=k+1:=λz=>by cases z;omega
    cases B' with
    |nil=>
     rcases aD.mp m with z | m
     .exact one z
     .cases m
    |cons q r=>
     cases q with
     |txt v=>
      rcases aD.mp m with z | m
      .cases z
       have:(v++t1).length=v.length+t1.length:=by show(v.cps++t1.cps).size=_;rw[cK];rfl
       rw[this,t1l];exact aC (h v (.head _))
      .exact aG (h u (.tail _ m))
     |lf l2=>
      rcases aD.mp m with z | m
      .exact one z
      .exact aG (h u m)) t m
  show t.length<=k+(ls.length+1);omega
theorem zH{p:Pc}{t:Str}(h:fz.one (.txt t)∈eO p):p= .txt t\/t.length=1:=by
 have bo:∀b:gC,fz.one (.txt t)=i9 b->t.length=1:=λb e=>by cases b<;>cases e<;>rfl
 cases p with
 |txt s=>cases aj.mp h;exact .inl rfl
 |lf l=>
  refine .inr ?_;cases l with
  |suc=>cases aj.mp h
  |part p=>
   cases p with
   |cur=>cases aj.mp h
   |mk m b=>
    cases m with
    |bare=>exact bo b (aj.mp h)
    |now=>
     rcases aD.mp h with z | h
     .injection z
     .rcases aD.mp h with z | h
      .exact bo b z
      .cases aj.mp h
    |later=>
     rcases aD.mp h with z | h
     .injection z
     .rcases aD.mp h with z | h
      .exact bo b z
      .cases aj.mp h
theorem oJ{nd:Nd}(hn:fZ nd<100):(eA nd).length<1000:=by
 have hsz:=m8 nd;have hjl:=m6 (eI nd);have hol:=gY (eQ (eI nd));show((eQ (eI nd)).flatMap eO++[fz.done]).length<1000;rw[ai];show _+1<1000;omega
theorem pg{nd:Nd}(hn:fZ nd<100)(i:Nat)(t:Str)(h:nth (eA nd) i=some (.one (.txt t))):t.length<2^20:=by
 have hsz:=m8 nd;have m:=oC h;rcases bj.mp (show fz.one (.txt t)∈(eQ (eI nd)).flatMap eO++[fz.done] from m) with m | m
 .obtain⟨p,mp,m⟩:=List.mem_flatMap.mp m
  rcases zH m with rfl | z
  .have:=um (eI nd) [] 0 (λt m=>by cases m) t (List.mem_reverse.mp mp)
   omega
  .omega
 .cases aj.mp m
def Bm(lim st:Nat)(lg:List LE)(tl:List O):List O:=[cY,dG lim st,valO lg,.list true [],dz lg]++tl
section
variable{lim st:Nat} {lg:List LE}
theorem ROs.P{f:Nat->Option Nat}{tl tl':List O}(h:∀i,i<5->f i=some i)(k:ROs f tl tl'):ROs f (Bm lim st lg tl) (Bm lim st lg tl'):=
 .k .ref (.k (.host (h _ ()) (h _ ()) (h _ ())) (.k (.valO lg) (.k (.l .z) (.k (.log lg) k))))
def yk(nd:V)(s:Str)(an:Bool):O:=.frame [(cU,nd),(cS,.str true s),(cT,.bool an),(dt,.obj 1)]
theorem uh{b:Bs}{s:Str}{an:Bool}{p q:Nd}(G:dI b)(hn:fZ (.cat p q)<100):Ct b 140 100 [d6 0 (.cat p q)] (Bm lim st lg [yk (d6 0 (.cat p q)) s an]) (.obj 6) (Bm lim st lg [yk (d6 0 (.cat p q)) s an,nT (eA (.cat p q))]):=by
 have h:=fJ.frame (l:=[0]) (os:=Bm lim st lg [yk (d6 0 (.cat p q)) s an]) (I':=[cY]) (news:=[cY,.list true ((eA (.cat p q)).map (ordV 0))]) (vs:=[d6 0 (.cat p q)]) (w:=.obj 6) rfl (BD (R:=cY) G (λf=>.ref) hn) rfl ()
  (.k .ref .z) (.k (.nd (by rfl) _) .z) (.k .ref (.k (.l (.ords (by rfl) _)) .z)) (.o rfl)
 exact fJ.more (c:=C b) h ()
theorem ROs.mo'{f:Nat->Option Nat}{os:List fz}{tl tl':List O}(h:∀i,i<5->f i=some i)(k:ROs f tl tl'):ROs f (ir lim st lg os tl) (ir lim st lg os tl'):=
 .k .ref (.k (.host (h _ ()) (h _ ()) (h _ ())) (.k (.valO lg) (.k (.l .z) (.k (.log lg) (.k (.ord (h _ ()) os) k)))))
end
nonrec theorem MA{b:Bs}{lim st:Nat}{s:Str}{lg:List LE}{an:Bool}{p q:Nd}{{x:mQ×List LE×Nat}}(G:dI b)(hs:s.length<=8)(hlim:lim<990)(hn:fZ (.cat p q)<100)(h1:Cz s (eA (.cat p q)) lim (dJ s an) 0 lg st=some x)(hl:lg.length<=st)(A':st<=lim)(hr:∀l t,x≠(.raised,l,t)):
  Ct b 160 538 [d6 0 (.cat p q),.str true s,.bool an,.obj 1] (Bm lim st lg []) (C6 5 x.1) (Bm lim x.2.2 x.2.1 (rM x.1)):=by
 have T:=Mf G hs hlim (oJ hn) (pg hn) h1 hl A' hr;have c:=uh (s:=s) (an:=an) (lim:=lim) (st:=st) (lg:=lg) G hn;obtain⟨r,G',C'⟩:=x;have h:=fJ.frame (l:=[0,1,2,3,4,6]) (os:=Bm lim st lg [yk (d6 0 (.cat p q)) s an,nT (eA (.cat p q))]) (I':=ir lim st lg (eA (.cat p q)) []) (news:=ir lim C' G' (eA (.cat p q)) (rM r)) (vs:=[.obj 6,.str true s,.bool an,.obj 1]) (w:=C6 7 r) rfl T rfl ()
  (.mo' () .z) (.k (.o rfl) (.k .s (.k .b (.k (.o rfl) .z)))) (.mo' (ru rfl) ?_) ?_
 .have h:Ct b 140 531 [.obj 6,.str true s,.bool an,.obj 1] (Bm lim st lg [yk (d6 0 (.cat p q)) s an,nT (eA (.cat p q))]) (C6 7 r) (Bm lim C' G' (yk (d6 0 (.cat p q)) s an::nT (eA (.cat p q))::rM r)):=h
  cases r with
  |nope k=>exact dF G (r:=140) (n:=20) (l₀:=[100,531]) [0,1,2,3,4] (K7 ..) ⟨h,c,N4⟩ (.P () .z) .n
  |met j e ns=>exact dF G (r:=140) (n:=20) (l₀:=[100,531]) [0,1,2,3,4,7] (KA ..) ⟨h,c,N4⟩ (.P () (.k (.l (.nps (by rfl) _)) .z)) (.t (.k .i (.k .i (.k (.o (by rfl)) .z))))
  |raised=>exact absurd rfl (hr G' C')
 .cases r with
  |met j e ns=>exact .k (.l (.nps (by rfl) _)) .z
  |_=>exact .z
 .cases r with
  |met j e ns=>exact .t (.k .i (.k .i (.k (.o (by rfl)) .z)))
  |_=>exact .n
theorem L0{b:Bs}{lim st:Nat}{s:Str}{lg:List LE}{EI:eW}{an:Bool}{p q:Nd}(G:dI b)(hs:s.length<=8)(hlim:lim<990)(hn:fZ (.cat p q)<100)(SX:im b EI){G':List LE}{C':Nat}(h1:Cz s (eA (.cat p q)) lim (dJ s an) 0 lg st=some (.raised,G',C'))(hl:lg.length<=st)(A':st<=lim):
  eU ((C b).at 160) EI 538 [d6 0 (.cat p q),.str true s,.bool an,.obj 1] (Bm lim st lg []) (Bm lim C' G' []):=by
 have T:=Mt G hs hlim (oJ hn) (pg hn) SX h1 hl A';have c:=uh (s:=s) (an:=an) (lim:=lim) (st:=st) (lg:=lg) G hn;have h:=eU.frame (l:=[0,1,2,3,4,6]) (os:=Bm lim st lg [yk (d6 0 (.cat p q)) s an,nT (eA (.cat p q))]) (I':=ir lim st lg (eA (.cat p q)) []) (news:=ir lim C' G' (eA (.cat p q)) []) (vs:=[.obj 6,.str true s,.bool an,.obj 1]) rfl T rfl ()
  (.mo' () .z) (.k (.o rfl) (.k .s (.k .b (.k (.o rfl) .z)))) (.mo' (ru rfl) .z)
 exact kW G (r:=140) (n:=20) (l₀:=[100,531]) (l₁:=[531]) [0,1,2,3,4] (KG ..) ⟨h,c,N4⟩ (.P () .z)
end
section
set_option backward.match.sparseCases false
/-! the plain trial,in plain Lean -/
def lB:Str:=S [101,110,100,32,110,111,119]
def kO:Str:=S [101,110,100,32,108,97,116,101,114]
def jy:Str:=S [108,111,115,116]
inductive jL where
 |nd (n:Nd)
 |endN (a:Nat)
 |endL (a:Nat)
structure Tw where
 ch:List jL
 at_:Nat
 ns:List Str
inductive tQ where
 |way (t:Tw)
 |no
 |lost
abbrev eJ:=List (Option Tw)
def oz(s:Str)(b:gC)(i:jL)(r:List jL)(a:Nat)(ns:List Str)(p:eJ)(lg:List LE):tQ×eJ×List LE:=match b with
 | .fail=>(.no,p,lg)
 | .abort=>(.lost,p,lg)
 | .fence=>(.way ⟨r,a,ns⟩,none::p,lg)
 |b=>match eE s a (match b with | .ca=>.txt sA | .cb=>.txt sB | .len1=>.len 1 | .len0=>.len 0 | _=>.any) with
  |some e=>(.way ⟨r,e,ns⟩,p,lg)
  |none=>(.no,p,lg)
def adv(s:Str)(i:jL)(r:List jL)(a:Nat)(ns:List Str)(p:eJ)(lg:List LE):tQ×eJ×List LE:=match i with
 | .nd (.cat x y)=>(.way ⟨.nd x:: .nd y::r,a,ns⟩,p,lg)
 | .nd (.lf .suc)=>(.way ⟨r,a,ns⟩,some ⟨i::r,a,ns⟩::p,lg)
 | .nd (.lf (.part .cur))=>(.way ⟨r,a,ns⟩,p,lg++[.at a])
 | .nd (.lf (.part (.mk .now b)))=>(.way ⟨.nd (.lf (.part (.mk .bare b))):: .endN a::r,a,ns⟩,p,lg)
 | .nd (.lf (.part (.mk .later b)))=>(.way ⟨.nd (.lf (.part (.mk .bare b))):: .endL a::r,a,ns⟩,p,lg)
 | .nd (.lf (.part (.mk .bare b)))=>oz s b i r a ns p lg
 | .endN m=>(.way ⟨r,a,ns⟩,p,lg++[.tx (cut s m a)])
 | .endL m=>(.way ⟨r,a,ns++[cut s m a]⟩,p,lg)
inductive Al where
 |raised (i:jL) (r:List jL)
 |brk (i:jL) (r:List jL)
 |lost
 |fin (a:Nat) (ns:List Str)
def ko(s:Str)(lim:Nat):Nat->List jL->Nat->List Str->eJ->List LE->Nat->Option (Al×eJ×List LE×Nat)
 |0,_,_,_,_,_,_=>none
 |_+1,[],a,ns,p,lg,st=>some (.fin a ns,p,lg,st)
 |n+1,i::r,a,ns,p,lg,st=>if lim<st+1 then some (.raised i r,p,lg,st+1) else
  match adv s i r a ns p lg with
  |(.no,p,lg)=>some (.brk i r,p,lg,st+1)
  |(.lost,p,lg)=>some (.lost,p,lg,st+1)
  |(.way t,p,lg)=>ko s lim n t.ch t.at_ t.ns p lg (st+1)
inductive ze where
 |raised
 |none
 |lost (k:Nat)
 |fin (a:Nat) (ns:List Str)
def uA(s:Str)(lim:Nat):Nat->eJ->List LE->Nat->Option (ze×eJ×List LE×Nat)
 |0,_,_,_=>none
 |_+1,[],lg,st=>some (.none,[],lg,st)
 |_+1,none::p,lg,st=>some (.lost 0,p,lg,st)
 |n+1,some t::p,lg,st=>match ko s lim (lim+2) t.ch t.at_ t.ns p lg st with
  |none=>none
  |some (.raised _ _,p,lg,st)=>some (.raised,p,lg,st)
  |some (.brk _ _,p,lg,st)=>uA s lim n p lg st
  |some (.lost,p,lg,st)=>some (.lost 1,p,lg,st)
  |some (.fin a ns,p,lg,st)=>some (.fin a ns,p,lg,st)
def Le:jL->V
 | .nd n=>d6 0 n
 | .endN a=>.tup [.str true lB,.obj 0,.int true (a:Int)]
 | .endL a=>.tup [.str true kO,.obj 0,.int true (a:Int)]
def rB:List jL->V
 |[]=>.none
 |i::l=>.tup [Le i,rB l]
def Fh(t:Tw):V:=.tup [rB t.ch,.int true (t.at_:Int),.tup (t.ns.map iC)]
def lZ:Option Tw->V
 |none=>.none
 |some t=>Fh t
def osT(H D L P:O)(tl:List O):List O:=[cY,H,D,.list true [],L,P]++tl
section
variable(sp:jC) (sl:jz) (r:Nat) (lim st a:Int) (D:O) (lg:List V) (s:Str) (ns top:List V) (u' x y:V) (m:Int) (t:Str) (n:Int)
theorem GA:TC sp sl r [0,1,2,3,4,5] [] 40 608 [.tup [.tup [.str false fO,x,y],u'],.int true a,.tup ns,.str true s,.obj 5,.obj 1] ⟨osT (cX lim st) D (.list true lg) (.stk top []) [],[],[]⟩ (.tup [.tup [x,.tup [y,u']],.int true a,.tup ns]) (osT (cX lim st) D (.list true lg) (.stk top []) []) []:=by
 walk_at"k"
theorem Fu:TC sp sl r [0,1,2,3,4,5] [] 40 608 [.tup [.tup [.str false nB,x,.obj 0],u'],.int true a,.tup ns,.str true s,.obj 5,.obj 1] ⟨osT (cX lim st) D (.list true lg) (.stk top []) [],[],[]⟩ (.tup [.tup [x,.tup [.tup [.str false (lB),.obj 0,.int true a],u']],.int true a,.tup ns]) (osT (cX lim st) D (.list true lg) (.stk top []) []) [Str.length (S [101,110,100,32])+Str.length nB<=sizeLine]:=by
 walk_at"k"
theorem BA:TC sp sl r [0,1,2,3,4,5] [] 40 608 [.tup [.tup [.str false hZ,x,.obj 0],u'],.int true a,.tup ns,.str true s,.obj 5,.obj 1] ⟨osT (cX lim st) D (.list true lg) (.stk top []) [],[],[]⟩ (.tup [.tup [x,.tup [.tup [.str false (kO),.obj 0,.int true a],u']],.int true a,.tup ns]) (osT (cX lim st) D (.list true lg) (.stk top []) []) [Str.length (S [101,110,100,32])+Str.length hZ<=sizeLine]:=by
 walk_at"k"
theorem CV:TC sp sl r [0,1,2,3,4,5] [] 40 608 [.tup [.tup [.str false kO,.obj 0,.int true m],u'],.int true a,.tup ns,.str true s,.obj 5,.obj 1] ⟨osT (cX lim st) D (.list true lg) (.stk top []) [],[],[]⟩ (V.tup [u',V.int true a,V.tup (ns++[V.tup [V.obj 0,V.str (true||true) (Txt.slice s (some m) (some a))]])]) (osT (cX lim st) D (.list true lg) (.stk top []) []) [List.length ns+List.length [V.tup [V.obj 0,V.str (true||true) (Txt.slice s (some m) (some a))]]<=sizeLine,Str.length s<=sizeLine,Str.length kO<=sizeLine]:=by
 walk_at"k"
theorem Cm:TC sp sl r [0,1,2,3,4,5] [] 40 608 [.tup [.tup [.str false lB,.obj 0,.int true m],u'],.int true a,.tup ns,.str true s,.obj 5,.obj 1] ⟨osT (cX lim st) (.dict []) (.list true lg) (.stk top []) [],[],[]⟩ (.tup [u',.int true a,.tup ns]) (osT (cX lim st) (.dict [sK]) (.list true (lg++[.tup [.str false sK,.str (true||true) (Txt.slice s (some m) (some a))]])) (.stk top []) []) [List.length lg<2^20,Str.length s<=sizeLine,Str.length lB<=sizeLine]:=by
 walk_at"k"
theorem CK:TC sp sl r [0,1,2,3,4,5] [] 40 608 [.tup [.tup [.str false fI,.obj 0],u'],.int true a,.tup ns,.str true s,.obj 5,.obj 1] ⟨osT (cX lim st) (.dict []) (.list true lg) (.stk top []) [],[],[]⟩ (.tup [u',.int true a,.tup ns]) (osT (cX lim st) (.dict [sK]) (.list true (lg++[.tup [.str false sK,.int true a]])) (.stk top []) []) [List.length lg<2^20,Str.length fI<=sizeLine]:=by
 walk_at"k"
theorem BG:TC sp sl r [0,1,2,3,4,5] [] 40 608 [.tup [.tup [.str false lB,.obj 0,.int true m],u'],.int true a,.tup ns,.str true s,.obj 5,.obj 1] ⟨osT (cX lim st) (.dict [sK]) (.list true lg) (.stk top []) [],[],[]⟩ (.tup [u',.int true a,.tup ns]) (osT (cX lim st) (.dict [sK]) (.list true (lg++[.tup [.str false sK,.str (true||true) (Txt.slice s (some m) (some a))]])) (.stk top []) []) [List.length lg<2^20,sK=sK,Str.length s<=sizeLine,Str.length lB<=sizeLine]:=by
 walk_at"k"
theorem Dd:TC sp sl r [0,1,2,3,4,5] [] 40 608 [.tup [.tup [.str false fI,.obj 0],u'],.int true a,.tup ns,.str true s,.obj 5,.obj 1] ⟨osT (cX lim st) (.dict [sK]) (.list true lg) (.stk top []) [],[],[]⟩ (.tup [u',.int true a,.tup ns]) (osT (cX lim st) (.dict [sK]) (.list true (lg++[.tup [.str false sK,.int true a]])) (.stk top []) []) [List.length lg<2^20,sK=sK,Str.length fI<=sizeLine]:=by
 walk_at"k"
theorem Bb:TC sp sl r [0,1,2,3,4,5] [] 40 608 [.tup [.tup [.str false eV],u'],.int true a,.tup ns,.str true s,.obj 5,.obj 1] ⟨osT (cX lim st) D (.list true lg) (.stk top []) [],[],[]⟩ (.str false (S [108,111,115,116])) (osT (cX lim st) D (.list true lg) (.stk top []) []) [Str.length eV<=sizeLine]:=by
 walk_at"k"
theorem EF:TC sp sl r [0,1,2,3,4,5] [] 40 608 [.tup [.tup [.str false mG],u'],.int true a,.tup ns,.str true s,.obj 5,.obj 1] ⟨osT (cX lim st) D (.list true lg) (.stk top []) [],[],[]⟩ .none (osT (cX lim st) D (.list true lg) (.stk top []) []) [Str.length mG<=sizeLine]:=by
 walk_at"k"
theorem Cn:TC sp sl r [0,1,2,3,4,5] [] 40 608 [.tup [.tup [.str false iv],u'],.int true a,.tup ns,.str true s,.obj 5,.obj 1] ⟨osT (cX lim st) D (.list true lg) (.stk top []) [],[],[]⟩ (.tup [u',.int true a,.tup ns]) (osT (cX lim st) D (.list true lg) (.stk (.none::top) []) []) [(0:Nat)+List.length top<2^20,Str.length iv<=sizeLine]:=by
 walk_at"k"
theorem xj:TC sp sl r [0,1,2,3,4,5] [] 40 608 [.tup [.tup [.str false gz],u'],.int true a,.tup ns,.str true s,.obj 5,.obj 1] ⟨osT (cX lim st) D (.list true lg) (.stk top []) [],[],[]⟩ (.tup [u',.int true a,.tup ns]) (osT (cX lim st) D (.list true lg) (.stk (.tup [.tup [.tup [.str false gz],u'],.int true a,.tup ns]::top) []) []) [(0:Nat)+List.length top<2^20,Str.length gz<=sizeLine]:=by
 walk_at"k"
theorem yQ:TC sp sl r [0,1,2,3,4,5] [] 40 608 [.tup [.tup [.str false dM,.str true t],u'],.int true a,.tup ns,.str true s,.obj 5,.obj 1] ⟨osT (cX lim st) D (.list true lg) (.stk top []) [],[.b true],[]⟩ (.tup [u',.int true (a+Int.ofNat (Str.length t)),.tup ns]) (osT (cX lim st) D (.list true lg) (.stk top []) []) [decide (Txt.slice s (some a) (some (a+Int.ofNat (Str.length t)))=t)=true,Str.length s<=sizeLine,Str.length t<2^20,Str.length dM<=sizeLine]:=by
 walk_at"k"
theorem zf:TC sp sl r [0,1,2,3,4,5] [] 40 608 [.tup [.tup [.str false dM,.str true t],u'],.int true a,.tup ns,.str true s,.obj 5,.obj 1] ⟨osT (cX lim st) D (.list true lg) (.stk top []) [],[.b false],[]⟩ .none (osT (cX lim st) D (.list true lg) (.stk top []) []) [decide (Txt.slice s (some a) (some (a+Int.ofNat (Str.length t)))=t)=false,Str.length s<=sizeLine,Str.length t<2^20,Str.length dM<=sizeLine]:=by
 walk_at"k"
theorem zr:TC sp sl r [0,1,2,3,4,5] [] 40 608 [.tup [.tup [.str false jr,.int true n],u'],.int true a,.tup ns,.str true s,.obj 5,.obj 1] ⟨osT (cX lim st) D (.list true lg) (.stk top []) [],[.b true],[]⟩ (.tup [u',.int true (a+n),.tup ns]) (osT (cX lim st) D (.list true lg) (.stk top []) []) [decide (a+n<=Int.ofNat (Str.length s))=true,Str.length s<2^20,Str.length jr<=sizeLine]:=by
 walk_at"k"
theorem zC:TC sp sl r [0,1,2,3,4,5] [] 40 608 [.tup [.tup [.str false jr,.int true n],u'],.int true a,.tup ns,.str true s,.obj 5,.obj 1] ⟨osT (cX lim st) D (.list true lg) (.stk top []) [],[.b false],[]⟩ .none (osT (cX lim st) D (.list true lg) (.stk top []) []) [decide (a+n<=Int.ofNat (Str.length s))=false,Str.length s<2^20,Str.length jr<=sizeLine]:=by
 walk_at"k"
theorem zb:TC sp sl r [0,1,2,3,4,5] [] 40 608 [.tup [.tup [.str false kT,.str true lU],u'],.int true a,.tup ns,.str true s,.obj 5,.obj 1] ⟨osT (cX lim st) D (.list true lg) (.stk top []) [],[.b true,.b true],[]⟩ (.tup [u',.int true (a+1),.tup ns]) (osT (cX lim st) D (.list true lg) (.stk top []) []) [Txt.contains lU {cps:=#[Array.getD (Str.cps s) (Int.toNat a) 0]}=true,0<=a/\a<Int.ofNat (Str.length s)/\a<2^62,decide (a<Int.ofNat (Str.length s))=true,Str.length s<2^20,Str.length kT<=sizeLine]:=by
 walk_at"k"
theorem x9:TC sp sl r [0,1,2,3,4,5] [] 40 608 [.tup [.tup [.str false kT,.str true lU],u'],.int true a,.tup ns,.str true s,.obj 5,.obj 1] ⟨osT (cX lim st) D (.list true lg) (.stk top []) [],[.b true,.b false],[]⟩ .none (osT (cX lim st) D (.list true lg) (.stk top []) []) [Txt.contains lU {cps:=#[Array.getD (Str.cps s) (Int.toNat a) 0]}=false,0<=a/\a<Int.ofNat (Str.length s)/\a<2^62,decide (a<Int.ofNat (Str.length s))=true,Str.length s<2^20,Str.length kT<=sizeLine]:=by
 walk_at"k"
theorem wJ:TC sp sl r [0,1,2,3,4,5] [] 40 608 [.tup [.tup [.str false kT,.str true lU],u'],.int true a,.tup ns,.str true s,.obj 5,.obj 1] ⟨osT (cX lim st) D (.list true lg) (.stk top []) [],[.b false],[]⟩ .none (osT (cX lim st) D (.list true lg) (.stk top []) []) [decide (a<Int.ofNat (Str.length s))=false,Str.length s<2^20,Str.length kT<=sizeLine]:=by
 walk_at"k"
end
/-! words written,not read -/
def M8:Lf->V
 | .suc=>.tup [.str false gz]
 | .part .cur=>.tup [.str false fI,.obj 0]
 | .part (.mk .bare b)=>xh b
 | .part (.mk .now b)=>.tup [.str false nB,lN b,.obj 0]
 | .part (.mk .later b)=>.tup [.str false hZ,lN b,.obj 0]
def MQ:jL->V
 | .nd (.lf l)=>M8 l
 | .nd (.cat x y)=>.tup [.str false fO,d6 0 x,d6 0 y]
 | .endN a=>.tup [.str false lB,.obj 0,.int true (a:Int)]
 | .endL a=>.tup [.str false kO,.obj 0,.int true (a:Int)]
section
variable{f:Nat->Option Nat}
theorem RV.it(h:f 0=some 0)(i:jL):RV f (Le i) (Le i):=by
 cases i with
 |nd n=>exact .nd h n
 |endN a=>exact .t (.k .s (.k (.o h) (.k .i .z)))
 |endL a=>exact .t (.k .s (.k (.o h) (.k .i .z)))
theorem RV.toW(h:f 0=some 0)(i:jL):RV f (Le i) (MQ i):=by
 cases i with
 |nd n=>
  cases n with
  |cat x y=>exact .t (.k .s (.k (.nd h x) (.k (.nd h y) .z)))
  |lf l=>
   cases l with
   |suc=>exact .t (.k .s .z)
   |part p=>
    cases p with
    |cur=>exact .t (.k .s (.k (.o h) .z))
    |mk m b=>
     cases m with
     |bare=>exact .t (.k .s (.tl b))
     |now=>exact .t (.k .s (.k (.bare b) (.k (.o h) .z)))
     |later=>exact .t (.k .s (.k (.bare b) (.k (.o h) .z)))
 |endN a=>exact .t (.k .s (.k (.o h) (.k .i .z)))
 |endL a=>exact .t (.k .s (.k (.o h) (.k .i .z)))
theorem RV.ch{f:Nat->Option Nat}(h:f 0=some 0):∀l:List jL,RV f (rB l) (rB l)
 |[]=>.n
 |i::l=>.t (.k (.it h i) (.k (RV.ch h l) .z))
theorem RV.tw(h:f 0=some 0)(t:Tw):RV f (Fh t) (Fh t):=.t (.k (.ch h _) (.k .i (.k (.t (.nps h _)) .z)))
theorem RV.pl(h:f 0=some 0)(t:Option Tw):RV f (lZ t) (lZ t):=by
 cases t with
 |none=>exact .n
 |some t=>exact .tw h t
theorem RVs.pl(h:f 0=some 0)(p:eJ):RVs f (p.map lZ) (p.map lZ):=.map' p λx I=>.pl h x
theorem ROs.osT{lim st:Nat}{lg:List LE}{top top':List V}{tl tl':List O}(h:∀i,i<6->f i=some i)(ht:RVs f top top')(k:ROs f tl tl'):
  ROs f (Internal.osT (dG lim st) (valO lg) (dz lg) (.stk top []) tl) (Internal.osT (dG lim st) (valO lg) (dz lg) (.stk top' []) tl'):=
 .k .ref (.k (.host (h _ ()) (h _ ()) (h _ ())) (.k (.valO lg) (.k (.l .z) (.k (.log lg) (.k (.y ht) k)))))
end
local macro_rules | `(tactic| walk_at "adv") => `(tactic| (repeat' first | exact trivial | refine And.intro ?_ ?_ | assumption | rfl | exact ax () ‹2 ^ 20 ≤ sizeLine› | omega))
def DG:tQ->V
 | .way t=>Fh t
 | .no=>.none
 | .lost=>.str false jy
abbrev oj(lim st:Nat)(lg:List LE)(p:eJ):List O:=osT (dG lim st) (valO lg) (dz lg) (.stk (p.map lZ) []) []
nonrec theorem Jv{b:Bs}{s:Str}{r:List jL}{{lim st:Nat}}{{lg:List LE}}{{p:eJ}}{{a:Nat}}{{ns:List Str}}(G:dI b)(hs:s.length<=8)(ha:a<=s.length){q:HV}{kd:Str}{v:V}(hq:[V.str false kd,v]=(match q with | .txt t=>[.str false dM,.str true t] | .len n=>[.str false jr,.int true (n:Int)] | .any=>[.str false kT,.str true lU]))(ht:∀t,q= .txt t->t.length<2^20):
  Ct b 40 608 [.tup [.tup [.str false kd,v],rB r],.int true (a:Int),.tup (ns.map iC),.str true s,.obj 5,.obj 1] (oj lim st lg p) (match eE s a q with | some e=>Fh ⟨r,e,ns⟩ | none=>.none) (oj lim st lg p):=by
 have hb:=dv;have hs':s.length<=sizeLine:=by omega
 have S:ROs (fb [0,1,2,3,4,5]) (oj lim st lg p) (oj lim st lg p):=.osT () (.pl (by rfl) p) .z;have W:∀e:Nat,RV (fb [0,1,2,3,4,5]) (.tup [rB r,.int true (e:Int),.tup (ns.map iC)]) (Fh ⟨r,e,ns⟩):=λe=>.t (.k (.ch (by rfl) r) (.k .i (.k (.t (.nps (by rfl) ns)) .z)));cases q with
 |txt t=>
  obtain⟨rfl,rfl⟩:kd=dM/\v= .str true t:=by simpa using hq
  have htl:=ht t rfl;show Ct _ _ _ _ _ (match(if cut s a (a+t.length)=t then some (a+t.length) else none) with | some e=>Fh ⟨r,e,ns⟩ | none=>.none) _
  by_cases c:cut s a (a+t.length)=t
  .rw[if_pos c]
   exact cr G _ (yQ ..) ⟨av c,hs',htl,ax () hb,N4⟩ S (W (a+t.length))
  .rw[if_neg c]
   exact cr G _ (zf ..) ⟨ag c,hs',htl,ax () hb,N4⟩ S .n
 |len n=>
  obtain⟨rfl,rfl⟩:kd=jr/\v= .int true (n:Int):=by simpa using hq
  show Ct _ _ _ _ _ (match(if a+n<=s.length then some (a+n) else none) with | some e=>Fh ⟨r,e,ns⟩ | none=>.none) _
  by_cases c:a+n<=s.length
  .rw[if_pos c]
   exact cr G _ (zr ..) ⟨av (by show(a:Int)+(n:Int)<=(s.length:Int);omega),by omega,ax () hb,N4⟩ S (W (a+n))
  .rw[if_neg c]
   exact cr G _ (zC ..) ⟨ag (by show¬(a:Int)+(n:Int)<=(s.length:Int);omega),by omega,ax () hb,N4⟩ S .n
 |any=>
  obtain⟨rfl,rfl⟩:kd=kT/\v= .str true lU:=by simpa using hq
  show Ct _ _ _ _ _ (match(if a<s.length then(match Txt.contains lU (gH s a) with | true=>some (a+1) | false=>none) else none) with | some e=>Fh ⟨r,e,ns⟩ | none=>.none) _
  by_cases c:a<s.length
  .rw[if_pos c]
   cases c2:Txt.contains lU (gH s a) with
   |true=>exact cr G _ (zb ..) ⟨by show Txt.contains lU (gH s a)=true;exact c2,⟨by omega,by show(a:Int)<(s.length:Int);omega,by omega⟩,av (by show(a:Int)<(s.length:Int);omega),by omega,ax () hb,N4⟩ S (W (a+1))
   |false=>exact cr G _ (x9 ..) ⟨by show Txt.contains lU (gH s a)=false;exact c2,⟨by omega,by show(a:Int)<(s.length:Int);omega,by omega⟩,av (by show(a:Int)<(s.length:Int);omega),by omega,ax () hb,N4⟩ S .n
  .rw[if_neg c]
   exact cr G _ (wJ ..) ⟨ag (by show¬(a:Int)<(s.length:Int);omega),by omega,ax () hb,N4⟩ S .n
nonrec theorem Bf{b:Bs}{lim st:Nat}{s:Str}{lg:List LE}{p:eJ}{a:Nat}{ns:List Str}{r:List jL}{i:jL}(G:dI b)(hs:s.length<=8)(ha:a<=s.length)(hp:p.length<2^19)(bb:gC){x:tQ×eJ×List LE}(hx:oz s bb i r a ns p lg=x):Ct b 40 608 [.tup [xh bb,rB r],.int true (a:Int),.tup (ns.map iC),.str true s,.obj 5,.obj 1] (oj lim st lg p) (DG x.1) (oj lim st x.2.2 x.2.1):=by
 have hb:=dv;have one:∀(q:HV) (kd:Str) (v:V),([V.str false kd,v]=(match q with | .txt t=>[.str false dM,.str true t] | .len n=>[.str false jr,.int true (n:Int)] | .any=>[.str false kT,.str true lU]))->(∀t,q= .txt t->t.length<2^20)->
   x=(match eE s a q with | some e=>(.way ⟨r,e,ns⟩,p,lg) | none=>(.no,p,lg))->Ct b 40 608 [.tup [.tup [.str false kd,v],rB r],.int true (a:Int),.tup (ns.map iC),.str true s,.obj 5,.obj 1] (oj lim st lg p) (DG x.1) (oj lim st x.2.2 x.2.1):=λq kd v hq ht e=>by
  have T:=Jv (b:=b) (lim:=lim) (st:=st) (lg:=lg) (p:=p) (ns:=ns) (r:=r) G hs ha hq ht;cases c:eE s a q with
  |none=>rw[c] at e T;subst e;exact T
  |some e'=>rw[c] at e T;subst e;exact T
 have pl:(p.map lZ).length<2^19:=by rw[af];exact hp
 cases bb with
 |ca=>exact one (.txt sA) dM (.str true sA) rfl (λt e=>by cases e;decide) hx.symm
 |cb=>exact one (.txt sB) dM (.str true sB) rfl (λt e=>by cases e;decide) hx.symm
 |any=>exact one .any kT (.str true lU) rfl (λt e=>by injection e) hx.symm
 |len1=>exact one (.len 1) jr (.int true 1) rfl (λt e=>by injection e) hx.symm
 |len0=>exact one (.len 0) jr (.int true 0) rfl (λt e=>by injection e) hx.symm
 |fail=>
  subst hx;exact cr G _ (EF ..) ⟨ax () hb,N4⟩ (.osT () (.pl (by rfl) p) .z) .n
 |abort=>
  subst hx;exact cr G _ (Bb ..) ⟨ax () hb,N4⟩ (.osT () (.pl (by rfl) p) .z) .s
 |fence=>
  subst hx;exact cr G _ (Cn ..) ⟨by omega,ax () hb,N4⟩ (.osT () (.pl (by rfl) (none::p)) .z) (.t (.k (.ch (by rfl) r) (.k .i (.k (.t (.nps (by rfl) ns)) .z))))
nonrec theorem KU{b:Bs}{lim st:Nat}{s:Str}{p:eJ}{a:Nat}{ns:List Str}{r:List jL}{{lg:List LE}}(G:dI b)(hs:s.length<=8)(ha:a<=s.length)(hl:lg.length<2^19)(hp:p.length<2^19)(hn:ns.length<2^19){i:jL}{x:tQ×eJ×List LE}(hx:adv s i r a ns p lg=x):
  Ct b 40 608 [.tup [MQ i,rB r],.int true (a:Int),.tup (ns.map iC),.str true s,.obj 5,.obj 1] (oj lim st lg p) (DG x.1) (oj lim st x.2.2 x.2.1):=by
 have hb:=dv;have hs':s.length<=sizeLine:=by omega
 have hl':(lg.map d4).length<2^20:=by rw[af];omega
 have pl:(p.map lZ).length<2^19:=by rw[af];exact hp
 have nl:(ns.map iC).length+1<=sizeLine:=by rw[af];omega
 have S0:ROs (fb [0,1,2,3,4,5]) (oj lim st lg p) (oj lim st lg p):=.osT () (.pl (by rfl) p) .z;have SL:∀(e:LE) (v:V),RV (fb [0,1,2,3,4,5]) v (d4 e)->ROs (fb [0,1,2,3,4,5]) [cY,dG lim st,.dict [sK],.list true [],.list true (lg.map d4++[v]),.stk (p.map lZ) []] (oj lim st (lg++[e]) p):=λe v k=>
  .k .ref (.k (.host rfl rfl rfl) (.k (by cases lg<;>exact .d) (.k (.l .z) (.k (.l (.snoc (.les _) k)) (.k (.y (.pl (by rfl) p)) .z)))))
 have NS:RV (fb [0,1,2,3,4,5]) (.tup (ns.map iC)) (.tup (ns.map iC)):=.t (.nps (by rfl) ns);have W:RV (fb [0,1,2,3,4,5]) (.tup [rB r,.int true (a:Int),.tup (ns.map iC)]) (Fh ⟨r,a,ns⟩):=.t (.k (.ch (by rfl) r) (.k .i (.k NS .z)));cases i with
 |endN m=>
  subst hx;cases lg with
  |nil=>exact cr G _ (Cm ..) (by walk_at "adv") (SL (LE.tx (cut s m a)) _ (.le (LE.tx (cut s m a)))) W
  |cons q lg=>exact cr G _ (BG ..) (by walk_at "adv") (SL (LE.tx (cut s m a)) _ (.le (LE.tx (cut s m a)))) W
 |endL m=>
  subst hx;exact cr G _ (CV ..) (by walk_at "adv") S0
   (.t (.k (.ch (by rfl) r) (.k .i (.k (.t (by rw[bn];exact(RVs.nps (by rfl) ns).app' (.k (.np (by rfl) (cut s m a)) .z))) .z))))
 |nd n=>
  cases n with
  |cat u v=>
   subst hx;exact cr G _ (GA ..) trivial S0
    (.t (.k (.t (.k (.nd (by rfl) u) (.k (.t (.k (.nd (by rfl) v) (.k (.ch (by rfl) r) .z))) .z))) (.k .i (.k NS .z))))
  |lf l=>
   cases l with
   |suc=>
    subst hx;exact cr G _ (xj ..) (by walk_at "adv")
     (.osT (lim:=lim) (st:=st) (top':=(some ⟨.nd (.lf .suc)::r,a,ns⟩::p).map lZ) () (.k (.t (.k (.t (.k (.t (.k .s .z)) (.k (.ch (by rfl) r) .z))) (.k .i (.k NS .z)))) (.pl (by rfl) p)) .z) W
   |part q=>
    cases q with
    |cur=>
     subst hx;cases lg with
     |nil=>exact cr G _ (CK ..) (by walk_at "adv") (SL (LE.at a) _ (.le (LE.at a))) W
     |cons q lg=>exact cr G _ (Dd ..) (by walk_at "adv") (SL (LE.at a) _ (.le (LE.at a))) W
    |mk m bb=>
     cases m with
     |bare=>exact Bf (i:=.nd (.lf (.part (.mk .bare bb)))) G hs ha hp bb hx
     |now=>
      subst hx;exact cr G _ (Fu ..) (by walk_at "adv") S0
       (.t (.k (.t (.k (.bare bb) (.k (.t (.k (.t (.k .s (.k (.o (by rfl)) (.k .i .z)))) (.k (.ch (by rfl) r) .z))) .z))) (.k .i (.k NS .z))))
     |later=>
      subst hx;exact cr G _ (BA ..) (by walk_at "adv") S0
       (.t (.k (.t (.k (.bare bb) (.k (.t (.k (.t (.k .s (.k (.o (by rfl)) (.k .i .z)))) (.k (.ch (by rfl) r) .z))) .z))) (.k .i (.k NS .z))))
end
section
set_option backward.match.sparseCases false
def iH(nd:V)(s:Str)(bg:Int)(tl:List (Nm×V)):List (Nm×V):=[(cU,nd),(cS,.str true s),(dB,.int true bg),(dt,.obj 1),(gk,.obj 6)]++tl
def hH(c a n:V):List (Nm×V):=[(fF,c),(dW,a),(dq,n)]
def gc(H D L:O)(fr:List (Nm×V))(P:O)(tl:List O):List O:=[cY,H,D,.list true [],L,.frame fr,P]++tl
def iI(nd:V)(s:Str)(an:Bool)(tl:List (Nm×V)):List (Nm×V):=[(cU,nd),(cS,.str true s),(cT,.bool an),(dt,.obj 1)]++tl
def lv(H D L:O)(tl:List O):List O:=[cY,H,D,.list true [],L]++tl
section
variable(sp:jC) (sl:jz) (r:Nat) (rsp:uT) (rsl:vi) (lim st bg j:Int) (D L:O) (s:Str) (an:Bool) (nd:V) (top:List V) (H1 D1 L1:O)
theorem I9(sp:jC)(sl:jz)(r:Nat)(lim st bg:Int)(D L P:O)(s:Str)(nd c n:V)(a:V)(H1 D1 L1 P1:O):TS sp sl r [0,1,2,3,4,5,6] [573,608] 20 (d0 eG) 5 ⟨gc (cX lim st) D L (iH nd s bg (hH c a n)) P [],[.k .none (gc (cX lim (st+1)) D L (iH nd s bg (hH c a n)) P []),.k (.none) (gc H1 D1 L1 (iH nd s bg (hH c a n)) P1 [])],[]⟩ Fl.brk (gc H1 D1 L1 (iH nd s bg [(150,c),(31,a),(103,n),(109,.none)]) P1 []) [sp 608 [c,a,n,.str true s,.obj 6,.obj 1] (gc (cX lim (st+1)) D L (iH nd s bg (hH c a n)) P []) V.none (gc H1 D1 L1 (iH nd s bg (hH c a n)) P1 []),sp 573 [.obj 1] (gc (cX lim st) D L (iH nd s bg (hH c a n)) P []) V.none (gc (cX lim (st+1)) D L (iH nd s bg (hH c a n)) P [])]:=by
 walk_at"k"
theorem Er(sp:jC)(sl:jz)(r:Nat)(lim st bg:Int)(D L P:O)(s:Str)(nd c n:V)(a:V)(H1 D1 L1 P1:O):TS sp sl r [0,1,2,3,4,5,6] [573,608] 20 (d0 eG) 5 ⟨gc (cX lim st) D L (iH nd s bg (hH c a n)) P [],[.k .none (gc (cX lim (st+1)) D L (iH nd s bg (hH c a n)) P []),.k (.str false jy) (gc H1 D1 L1 (iH nd s bg (hH c a n)) P1 [])],[]⟩ (Fl.ret (.str false (S [108,111,115,116]))) (gc H1 D1 L1 (iH nd s bg [(150,c),(31,a),(103,n),(109,.str false jy)]) P1 []) [sp 608 [c,a,n,.str true s,.obj 6,.obj 1] (gc (cX lim (st+1)) D L (iH nd s bg (hH c a n)) P []) (V.str false jy) (gc H1 D1 L1 (iH nd s bg (hH c a n)) P1 []),sp 573 [.obj 1] (gc (cX lim st) D L (iH nd s bg (hH c a n)) P []) V.none (gc (cX lim (st+1)) D L (iH nd s bg (hH c a n)) P [])]:=by
 walk_at"k"
theorem Hk(sp:jC)(sl:jz)(r:Nat)(lim st bg:Int)(D L P:O)(s:Str)(nd c n:V)(a:V)(H1 D1 L1 P1:O)(c2 a2 n2:V):TS sp sl r [0,1,2,3,4,5,6] [573,608] 20 (d0 eG) 5 ⟨gc (cX lim st) D L (iH nd s bg (hH c a n)) P [],[.k .none (gc (cX lim (st+1)) D L (iH nd s bg (hH c a n)) P []),.k (.tup [c2,a2,n2]) (gc H1 D1 L1 (iH nd s bg (hH c a n)) P1 [])],[]⟩ Fl.next (gc H1 D1 L1 (iH nd s bg [(150,c2),(31,a2),(103,n2),(109,.tup [c2,a2,n2])]) P1 []) [sp 608 [c,a,n,.str true s,.obj 6,.obj 1] (gc (cX lim (st+1)) D L (iH nd s bg (hH c a n)) P []) (V.tup [c2,a2,n2]) (gc H1 D1 L1 (iH nd s bg (hH c a n)) P1 []),sp 573 [.obj 1] (gc (cX lim st) D L (iH nd s bg (hH c a n)) P []) V.none (gc (cX lim (st+1)) D L (iH nd s bg (hH c a n)) P [])]:=by
 walk_at"k"
theorem A8(sp:jC)(sl:jz)(r:Nat)(rsp:uT)(rsl:vi)(lim st bg:Int)(D L P:O)(s:Str)(nd c n:V)(a:V):Option.map (tj [0,1,2,3,4,5,6]) ((tP (Pg (fe [573,608]) sp sl r) (Rg (fe [573]) rsp rsl) 20).ss (d0 eG) 5 ⟨gc (cX lim st) D L (iH nd s bg (hH c a n)) P [],[.r (gc (cX lim (st+1)) D L (iH nd s bg (hH c a n)) P [])],[]⟩)=some (List.map some (gc (cX lim (st+1)) D L (iH nd s bg (hH c a n)) P []),[rsp 573 [.obj 1] (gc (cX lim st) D L (iH nd s bg (hH c a n)) P []) (gc (cX lim (st+1)) D L (iH nd s bg (hH c a n)) P [])]):=by
 walk_at"k"
theorem D5:TS sp sl r [0,1,2,3,4,5,6] [] 20 (d0 eY) 5 ⟨gc (cX lim st) D L (iH nd s bg []) (.stk (.none::top) []) [],[],[]⟩ (Fl.ret (.str false (S [108,111,115,116]))) (gc (cX lim st) D L (iH nd s bg [(109,.none)]) (.stk top []) []) [(0:Nat)+List.length (V.none::top)<2^20]:=by
 walk_at"k"
theorem Fx(sp:jC)(sl:jz)(r:Nat)(lim st bg:Int)(D L:O)(s:Str)(nd:V)(top:List V)(c a n:V)(H1 D1 L1 P1:O)(a2:V)(ns:List V):TS sp sl r [0,1,2,3,4,5,6,7] [] 20 (d0 eY) 5 ⟨gc (cX lim st) D L (iH nd s bg []) (.stk (.tup [c,a,n]::top) []) [],[.l .next (gc H1 D1 L1 (iH nd s bg (hH .none a2 (.tup ns))) P1 [])],[]⟩ (Fl.ret (.tup [a2,.obj 7])) (gc H1 D1 L1 (iH nd s bg (hH .none a2 (.tup ns))) P1 [.list true ns]) [List.length ns<2^20,sl eG 5 (gc (cX lim st) D L (iH nd s bg [(109,.tup [c,a,n]),(150,c),(31,a),(103,n)]) (.stk top []) []) Fl.next (gc H1 D1 L1 (iH nd s bg (hH .none a2 (.tup ns))) P1 []),(0:Nat)+List.length (V.tup [c,a,n]::top)<2^20]:=by
 walk_at"k"
theorem G3(sp:jC)(sl:jz)(r:Nat)(lim st bg:Int)(D L:O)(s:Str)(nd:V)(top:List V)(c a n:V)(H1 D1 L1 P1:O)(i2 r2:V):TS sp sl r [0,1,2,3,4,5,6] [] 20 (d0 eY) 5 ⟨gc (cX lim st) D L (iH nd s bg []) (.stk (.tup [c,a,n]::top) []) [],[.l .next (gc H1 D1 L1 (iH nd s bg [(fF,.tup [i2,r2])]) P1 [])],[]⟩ Fl.next (gc H1 D1 L1 (iH nd s bg [(150,.tup [i2,r2])]) P1 []) [sl eG 5 (gc (cX lim st) D L (iH nd s bg [(109,.tup [c,a,n]),(150,c),(31,a),(103,n)]) (.stk top []) []) Fl.next (gc H1 D1 L1 (iH nd s bg [(150,.tup [i2,r2])]) P1 []),(0:Nat)+List.length (V.tup [c,a,n]::top)<2^20]:=by
 walk_at"k"
theorem DE(sp:jC)(sl:jz)(r:Nat)(lim st bg:Int)(D L:O)(s:Str)(nd:V)(top:List V)(c a n:V)(H1 D1 L1 P1:O):TS sp sl r [0,1,2,3,4,5,6] [] 20 (d0 eY) 5 ⟨gc (cX lim st) D L (iH nd s bg []) (.stk (.tup [c,a,n]::top) []) [],[.l (.ret (.str true jy)) (gc H1 D1 L1 [] P1 [])],[]⟩ (Fl.ret (.str true jy)) (gc H1 D1 L1 [] P1 []) [sl eG 5 (gc (cX lim st) D L (iH nd s bg [(109,.tup [c,a,n]),(150,c),(31,a),(103,n)]) (.stk top []) []) (Fl.ret (V.str true jy)) (gc H1 D1 L1 [] P1 []),(0:Nat)+List.length (V.tup [c,a,n]::top)<2^20]:=by
 walk_at"k"
theorem Bk(sp:jC)(sl:jz)(r:Nat)(rsp:uT)(rsl:vi)(lim st bg:Int)(D L:O)(s:Str)(nd:V)(top:List V)(c a n:V)(H1 D1 L1 P1:O):Option.map (tj [0,1,2,3,4,5,6]) ((tP (Pg (fe []) sp sl r) (Rg (fe []) rsp rsl) 20).ss (d0 eY) 5 ⟨gc (cX lim st) D L (iH nd s bg []) (.stk (.tup [c,a,n]::top) []) [],[.r (gc H1 D1 L1 [] P1 [])],[]⟩)=some (List.map some (gc H1 D1 L1 [] P1 []),[rsl eG 5 (gc (cX lim st) D L (iH nd s bg [(109,.tup [c,a,n]),(150,c),(31,a),(103,n)]) (.stk top []) []) (gc H1 D1 L1 [] P1 []),(0:Nat)+List.length (V.tup [c,a,n]::top)<2^20]):=by
 walk_at"k"
theorem Cq:TC sp sl r [0,1,2,3,4] [] 20 601 [nd,.str true s,.int true bg,.obj 1] ⟨lv (cX lim st) D L [],[.l .next (gc H1 D1 L1 (iH nd s bg []) (.stk [] []) [])],[]⟩ .none (lv H1 D1 L1 []) [sl eY 5 (gc (cX lim st) D L (iH nd s bg []) (.list true [.tup [.tup [nd,.none],.int true bg,.tup []]]) []) Fl.next (gc H1 D1 L1 (iH nd s bg []) (.stk [] []) [])]:=by
 walk_at"k"
theorem Cw:TC sp sl r [0,1,2,3,4] [] 20 601 [nd,.str true s,.int true bg,.obj 1] ⟨lv (cX lim st) D L [],[.l (.ret (.str true jy)) (gc H1 D1 L1 [] .any [])],[]⟩ (.str true jy) (lv H1 D1 L1 []) [sl eY 5 (gc (cX lim st) D L (iH nd s bg []) (.list true [.tup [.tup [nd,.none],.int true bg,.tup []]]) []) (Fl.ret (V.str true jy)) (gc H1 D1 L1 [] .any [])]:=by
 walk_at"k"
theorem DM(sp:jC)(sl:jz)(r:Nat)(lim st bg:Int)(D L:O)(s:Str)(nd:V)(H1 D1 L1:O)(a:Int)(ns:List V):TC sp sl r [0,1,2,3,4,7] [] 20 601 [nd,.str true s,.int true bg,.obj 1] ⟨lv (cX lim st) D L [],[.l (.ret (.tup [.int true a,.obj 7])) (gc H1 D1 L1 [] .any [.list true ns])],[]⟩ (.tup [.int true a,.obj 7]) (lv H1 D1 L1 [.list true ns]) [sl eY 5 (gc (cX lim st) D L (iH nd s bg []) (.list true [.tup [.tup [nd,.none],.int true bg,.tup []]]) []) (Fl.ret (V.tup [V.int true a,V.obj 7])) (gc H1 D1 L1 [] .any [.list true ns])]:=by
 walk_at"k"
theorem yR:Option.map (tj [0,1,2,3,4]) ((tP (Pg (fe []) sp sl r) (Rg (fe []) rsp rsl) 20).c 601 [nd,.str true s,.int true bg,.obj 1] ⟨lv (cX lim st) D L [],[.r (gc H1 D1 L1 [] .any [])],[]⟩)=some (List.map some (lv H1 D1 L1 []),[rsl eY 5 (gc (cX lim st) D L (iH nd s bg []) (.list true [.tup [.tup [nd,.none],.int true bg,.tup []]]) []) (gc H1 D1 L1 [] .any [])]):=by
 walk_at"k"
theorem Bu:TS sp sl r [0,1,2,3,4,5] [601] 30 (d0 fN) 5 ⟨lv (cX lim st) D L [.frame (iI nd s an [(dB,.int true j)])],[.k .none (lv H1 D1 L1 (.frame (iI nd s an [(dB,.int true j)]):: .frame [(cU,nd),(cS,.str true s),(dB,.int true j),(dt,.obj 1)]::[]))],[]⟩ Fl.next (lv H1 D1 L1 [.frame (iI nd s an [(108,.int true j),(2,.none)])]) [sp 601 [nd,.str true s,.int true j,.obj 1] (gc (cX lim st) D L (iI nd s an [(108,.int true j)]) (.frame [(0,nd),(75,.str true s),(108,.int true j),(67,.obj 1)]) []) V.none (gc H1 D1 L1 (iI nd s an [(108,.int true j)]) (.frame [(0,nd),(75,.str true s),(108,.int true j),(67,.obj 1)]) [])]:=by
 walk_at"k"
theorem CA:TS sp sl r [0,1,2,3,4,5] [601] 30 (d0 fN) 5 ⟨lv (cX lim st) D L [.frame (iI nd s an [(dB,.int true j)])],[.k (.str false jy) (lv H1 D1 L1 (.frame (iI nd s an [(dB,.int true j)]):: .frame [(cU,nd),(cS,.str true s),(dB,.int true j),(dt,.obj 1)]::[]))],[]⟩ (Fl.ret .none) (lv H1 D1 L1 [.frame (iI nd s an [(108,.int true j),(2,.str false jy)])]) [sp 601 [nd,.str true s,.int true j,.obj 1] (gc (cX lim st) D L (iI nd s an [(108,.int true j)]) (.frame [(0,nd),(75,.str true s),(108,.int true j),(67,.obj 1)]) []) (V.str false jy) (gc H1 D1 L1 (iI nd s an [(108,.int true j)]) (.frame [(0,nd),(75,.str true s),(108,.int true j),(67,.obj 1)]) [])]:=by
 walk_at"k"
theorem C7(sp:jC)(sl:jz)(r:Nat)(lim st j:Int)(D L:O)(s:Str)(an:Bool)(nd:V)(H1 D1 L1:O)(a:Int)(ns:List V):TS sp sl r [0,1,2,3,4,5,7] [601] 30 (d0 fN) 5 ⟨lv (cX lim st) D L [.frame (iI nd s an [(dB,.int true j)])],[.k (.tup [.int true a,.obj 7]) (lv H1 D1 L1 (.frame (iI nd s an [(dB,.int true j)]):: .frame [(cU,nd),(cS,.str true s),(dB,.int true j),(dt,.obj 1)]::[.list true ns]))],[]⟩ (Fl.ret (.tup [.int true j,.int true a,.obj 7])) (gc H1 D1 L1 (iI nd s an [(108,.int true j),(2,.tup [.int true j,.int true a,.obj 7])]) (.list true ns) []) [sp 601 [nd,.str true s,.int true j,.obj 1] (gc (cX lim st) D L (iI nd s an [(108,.int true j)]) (.frame [(0,nd),(75,.str true s),(108,.int true j),(67,.obj 1)]) []) (V.tup [V.int true a,V.obj 7]) (gc H1 D1 L1 (iI nd s an [(108,.int true j)]) (.frame [(0,nd),(75,.str true s),(108,.int true j),(67,.obj 1)]) [.list true ns])]:=by
 walk_at"k"
theorem zk:Option.map (tj [0,1,2,3,4,5]) ((tP (Pg (fe [601]) sp sl r) (Rg (fe [601]) rsp rsl) 30).ss (d0 fN) 5 ⟨lv (cX lim st) D L [.frame (iI nd s an [(dB,.int true j)])],[.r (lv H1 D1 L1 (.frame (iI nd s an [(dB,.int true j)]):: .frame [(cU,nd),(cS,.str true s),(dB,.int true j),(dt,.obj 1)]::[]))],[]⟩)=some (List.map some (lv H1 D1 L1 [.frame (iI nd s an [(108,.int true j)])]),[rsp 601 [nd,.str true s,.int true j,.obj 1] (gc (cX lim st) D L (iI nd s an [(108,.int true j)]) (.frame [(0,nd),(75,.str true s),(108,.int true j),(67,.obj 1)]) []) (gc H1 D1 L1 (iI nd s an [(108,.int true j)]) (.frame [(0,nd),(75,.str true s),(108,.int true j),(67,.obj 1)]) [])]):=by
 walk_at"k"
theorem Kf:TC sp sl r [0,1,2,3,4] [] 20 587 [nd,.str true s,.bool an,.obj 1] ⟨lv (cX lim st) D L [],[.l .next (lv H1 D1 L1 [.frame (iI nd s an [])])],[]⟩ .none (lv H1 D1 L1 []) [sl fN 5 (lv (cX lim st) D L [.frame (iI nd s an [])]) Fl.next (lv H1 D1 L1 [.frame (iI nd s an [])])]:=by
 walk_at"k"
theorem KF:TC sp sl r [0,1,2,3,4] [] 20 587 [nd,.str true s,.bool an,.obj 1] ⟨lv (cX lim st) D L [],[.l (.ret .none) (lv H1 D1 L1 [.frame []])],[]⟩ .none (lv H1 D1 L1 []) [sl fN 5 (lv (cX lim st) D L [.frame (iI nd s an [])]) (Fl.ret V.none) (lv H1 D1 L1 [.frame []])]:=by
 walk_at"k"
theorem Kq(sp:jC)(sl:jz)(r:Nat)(lim st:Int)(D L:O)(s:Str)(an:Bool)(nd:V)(H1 D1 L1:O)(j a:Int)(ns:List V):TC sp sl r [0,1,2,3,4,6] [] 20 587 [nd,.str true s,.bool an,.obj 1] ⟨lv (cX lim st) D L [],[.l (.ret (.tup [.int true j,.int true a,.obj 6])) (lv H1 D1 L1 [.frame [],.list true ns])],[]⟩ (.tup [.int true j,.int true a,.obj 6]) (lv H1 D1 L1 [.list true ns]) [sl fN 5 (lv (cX lim st) D L [.frame (iI nd s an [])]) (Fl.ret (V.tup [V.int true j,V.int true a,V.obj 6])) (gc H1 D1 L1 [] (.list true ns) [])]:=by
 walk_at"k"
theorem Lo:Option.map (tj [0,1,2,3,4]) ((tP (Pg (fe []) sp sl r) (Rg (fe []) rsp rsl) 20).c 587 [nd,.str true s,.bool an,.obj 1] ⟨lv (cX lim st) D L [],[.r (lv H1 D1 L1 [.frame []])],[]⟩)=some (List.map some (lv H1 D1 L1 []),[rsl fN 5 (lv (cX lim st) D L [.frame (iI nd s an [])]) (lv H1 D1 L1 [.frame []])]):=by
 walk_at"k"
end
def zE(s:Str)(q:Tw)(ns:List Str)(p:eJ)(lg:List LE)(y:tQ×eJ×List LE):Prop:=
 (∀t,y.1= .way t->t.at_<=s.length/\t.ns.length<=ns.length+1)/\y.2.1.length<=p.length+1/\y.2.2.length<=lg.length+1/\∀t,some t∈y.2.1->some t∈p\/t=q
section
variable{s:Str} {ns:List Str} {p:eJ} {lg:List LE} {r:List jL} {a:Nat}
theorem jR{q:Tw}{z:Tw}{l:List LE}(h1:z.at_<=s.length)(h2:z.ns.length<=ns.length+1)(h3:l.length<=lg.length+1):zE s q ns p lg (.way z,p,l):=
 ⟨λt e=>by injection e with e;exact e▸⟨h1,h2⟩,au _,h3,λt m=>.inl m⟩
theorem sP{q:Tw}{y:tQ}(h:∀t,y≠ .way t):zE s q ns p lg (y,p,lg):=⟨λt e=>absurd e (h t),au _,au _,λt m=>.inl m⟩
theorem Ae{q:Tw}{z:Tw}{w:Option Tw}(h1:z.at_<=s.length)(h2:z.ns.length<=ns.length+1)(h:∀t,some t=w->t=q):zE s q ns p lg (.way z,w::p,lg):=
 ⟨λt e=>by injection e with e;exact e▸⟨h1,h2⟩,ao _,au _,λt m=>(aD.mp m).elim (λe=>.inr (h t e)) .inl⟩
theorem pJ{x:Tw}(ha:a<=s.length)(q:HV):zE s x ns p lg (match eE s a q with | some e=>(.way ⟨r,e,ns⟩,p,lg) | none=>(.no,p,lg)):=by
 cases c:eE s a q with
 |none=>exact sP λt z=>by injection z
 |some e=>exact jR (kF ha c) (au _) (au _)
theorem sj{α:Type}{l:List α}{x:α}:(l++[x]).length<=l.length+1:=aY (ai ..)
theorem KJ{i:jL}(ha:a<=s.length):zE s ⟨i::r,a,ns⟩ ns p lg (adv s i r a ns p lg):=by
 cases i with
 |endN m=>exact jR ha (au _) sj
 |endL m=>exact jR ha sj (au _)
 |nd n=>
  cases n with
  |cat u v=>exact jR ha (au _) (au _)
  |lf l=>
   cases l with
   |suc=>exact Ae ha (au _) λt e=>ac e
   |part q=>
    cases q with
    |cur=>exact jR ha (au _) sj
    |mk m b=>
     cases m with
     |now=>exact jR ha (au _) (au _)
     |later=>exact jR ha (au _) (au _)
     |bare=>
      cases b with
      |fail=>exact sP λt z=>by injection z
      |abort=>exact sP λt z=>by injection z
      |fence=>exact Ae ha (au _) λt e=>by injection e
      |ca=>exact pJ ha (.txt sA)
      |cb=>exact pJ ha (.txt sB)
      |any=>exact pJ ha .any
      |len1=>exact pJ ha (.len 1)
      |len0=>exact pJ ha (.len 0)
theorem CS{i:jL}{x:tQ}{p':eJ}{G':List LE}(h:adv s i r a ns p lg=(x,p',G'))(ha:a<=s.length):zE s ⟨i::r,a,ns⟩ ns p lg (x,p',G'):=h▸KJ ha
structure vY(s:Str)(p:eJ)(lg:List LE)(st:Nat):Prop where
 at_:∀t,some t∈p->t.at_<=s.length/\t.ns.length<=st
 pl:p.length<=st+1
 lgb:lg.length<=st
 stb:st<1000
theorem vY.adv{lim st:Nat}{i:jL}{p1:eJ}{L':List LE}{y:tQ}(hlim:lim<990)(A':¬lim<st+1)(tb:vY s p lg st)(ha:a<=s.length)(hn:ns.length<=st)(k:zE s ⟨i::r,a,ns⟩ ns p lg (y,p1,L')):vY s p1 L' (st+1):=
 ⟨λt m=>(k.2.2.2 t m).elim (λm=>⟨(tb.at_ t m).1,aG (tb.at_ t m).2⟩) λe=>by rw[e];exact⟨ha,aG hn⟩,ax k.2.1 (aC tb.pl),ax k.2.2.1 (aC tb.lgb),by omega⟩
theorem nQ{b:Bs}{r n k:Nat}{l₀ l₁:List Nat}{EI:eW}{rz:Prop}{bd:List MS}{fi:Nat}{σ I' H':List O}{ch:List Ch}{cs:List Prop}{NP:Fl->List O->Prop}{XP J:List O->Prop}(hz:rz)(l:List Nat)(h:Option.map (tj l) ((tP (Pg (fe l₀) (Ct b r) (Lt b r) r) (Rg (fe l₁) (eU ((C b).at r) EI) (mK ((C b).at r) EI)) n).ss bd fi ⟨σ,ch,[]⟩)=some (List.map some I',cs))(hc:jv cs)(S:ROs (fb l) I' H')(hX:XP H')
  (nd:l.Nodup:=by decide) (keep:kj l 0 k:=by rfl):iE (C b) r (fe l₀) (fe l₁) EI rz n k bd fi σ NP XP J:=by
 obtain⟨st,e1,e2⟩:=aq.mp h;obtain⟨e3,rfl⟩:l.map (nth st.os ·)=I'.map some/\st.cs=cs:=by simpa only[bc] using e2
 exact .inr ⟨hz,ch,st,e1,gh hc,_,(dg.sel (c:=C b) (k:=k) e3 nd (fj keep) S).mono (ao _) λσ' e=>by subst e;exact hX⟩
theorem E6{b:Bs}{r n k:Nat}{l₀:List Nat}{EI:eW}{rz:Prop}{bd:List MS}{fi:Nat}{σ I' H':List O}{ch:List Ch}{cs:List Prop}{NP:Fl->List O->Prop}{XP J:List O->Prop}{v:V}(l:List Nat)(h:Option.map (CW l) ((ev (Pg (fe l₀) (Ct b r) (Lt b r) r) n).ss bd fi ⟨σ,ch,[]⟩)=some (.brk,List.map some I',cs))(hc:jv cs)(S:ROs (fb l) I' H')(hN:NP .next H')
  (nd:l.Nodup:=by decide) (keep:kj l 0 k:=by rfl) {orc':Nat->Bool}:iE (C b) r (fe l₀) orc' EI rz n k bd fi σ NP XP J:=by
 obtain⟨⟨f,st⟩,e1,e2⟩:=aq.mp h;obtain⟨rfl,e3,rfl⟩:f= .brk/\l.map (nth st.os ·)=I'.map some/\st.cs=cs:=by simpa only[bc] using e2
 exact .inl ⟨ch,.brk,st,e1,gh hc,_,(dg.sel (c:=C b) (k:=k) e3 nd (fj keep) S).mono (ao _) λσ' e=>by subst e;exact hN⟩
abbrev zp(lim st:Nat)(lg:List LE)(nd:Nd)(s:Str)(bg:Nat)(fr:List (Nm×V))(P:O)(tl:List O):List O:=gc (dG lim st) (valO lg) (dz lg) (iH (d6 0 nd) s (bg:Int) fr) P tl
theorem ROs.U{lim st:Nat}{f:Nat->Option Nat}{fr fr':List (Nm×V)}{P P':O}{tl tl':List O}(h:∀i,i<7->f i=some i)(hf:FrR f fr fr')(hP:RO f P P')(k:ROs f tl tl'):
  ROs f (gc (dG lim st) (valO lg) (dz lg) fr P tl) (gc (dG lim st) (valO lg) (dz lg) fr' P' tl'):=
 .k .ref (.k (.host (h _ ()) (h _ ()) (h _ ())) (.k (.valO lg) (.k (.l .z) (.k (.log lg) (.k (.f hf) (.k hP k))))))
theorem FrR.five{nd:Nd}{bg:Nat}{f:Nat->Option Nat}{tl tl':List (Nm×V)}(h:∀i,i<7->f i=some i)(k:FrR f (iH (d6 0 nd) s (bg:Int) tl) tl'):FrR f (iH (d6 0 nd) s (bg:Int) tl) (iH (d6 0 nd) s (bg:Int) tl'):=
 .k rfl (.nd (h _ ()) nd) (.k rfl .s (.k rfl .i (.k rfl (.o (h _ ())) (.k rfl (.o (h _ ())) k))))
def IK(ch:List jL)(a:Nat)(ns:List Str):List (Nm×V):=hH (rB ch) (.int true (a:Int)) (.tup (ns.map iC))
theorem FrR.C{nd:Nd}{bg:Nat}{f:Nat->Option Nat}{ch:List jL}(h:∀i,i<7->f i=some i){w:List (Nm×V)}:
  FrR f (iH (d6 0 nd) s (bg:Int) (hH (rB ch) (.int true (a:Int)) (.tup (ns.map iC))++w)) (iH (d6 0 nd) s (bg:Int) (IK ch a ns)):=
 .five h (.k rfl (.ch (h _ ()) ch) (.k rfl .i (.k rfl (.t (.nps (h _ ()) ns)) .z)))
end
nonrec theorem Kc{b:Bs}{lim st:Nat}{s:Str}{lg:List LE}{p:eJ}{a:Nat}{ns:List Str}{i:jL}{r:List jL}(G:dI b)(hs:s.length<=8)(ha:a<=s.length)(hl:lg.length<2^19)(hp:p.length<2^19)(hn:ns.length<2^19){x:tQ×eJ×List LE}(hx:adv s i r a ns p lg=x)(fr:List (Nm×V)):Ct b 40 608 [rB (i::r),.int true (a:Int),.tup (ns.map iC),.str true s,.obj 6,.obj 1] (gc (dG lim st) (valO lg) (dz lg) fr (.stk (p.map lZ) []) []) (DG x.1) (gc (dG lim st) (valO x.2.2) (dz x.2.2) fr (.stk (x.2.1.map lZ) []) []):=by
 have T:=KU (b:=b) (lim:=lim) (st:=st) G hs ha hl hp hn hx;obtain⟨y,p',G'⟩:=x;have q:=fJ.frame (l:=[0,1,2,3,4,6]) (os:=gc (dG lim st) (valO lg) (dz lg) fr (.stk (p.map lZ) []) []) (I':=oj lim st lg p) (news:=oj lim st G' p') (vs:=[rB (i::r),.int true (a:Int),.tup (ns.map iC),.str true s,.obj 6,.obj 1]) (w:=DG y) rfl T rfl ()
  (.k .ref (.k (.host rfl rfl rfl) (.k (.valO lg) (.k (.l .z) (.k (.log lg) (.k (.y (.pl (by rfl) p)) .z))))))
  (.k (.t (.k (.toW (by rfl) i) (.k (.ch (by rfl) r) .z))) (.k .i (.k (.t (.nps (by rfl) ns)) (.k .s (.k (.o rfl) (.k (.o rfl) .z))))))
  (.k .ref (.k (.host rfl rfl rfl) (.k (.valO G') (.k (.l .z) (.k (.log G') (.k (.y (.pl (by rfl) p')) .z))))))
  (by cases y with
   |way t=>exact .tw (by rfl) t
   |no=>exact .n
   |lost=>exact .s)
 exact q
def FC(lim:Nat)(nd:Nd)(s:Str)(bg:Nat)(x:Al×eJ×List LE×Nat)(fl:Fl)(σ:List O):Prop:=match x with
 |(.fin a ns,p,lg,st)=>fl= .next/\σ=zp lim st lg nd s bg (IK [] a ns) (.stk (p.map lZ) []) []
 |(.brk i r,p,lg,st)=>fl= .next/\σ=zp lim st lg nd s bg [(fF,rB (i::r))] (.stk (p.map lZ) []) []
 |(.lost,p,lg,st)=>fl= .ret (.str true jy)/\σ=gc (dG lim st) (valO lg) (dz lg) [] (.stk (p.map lZ) []) []
 |(.raised _ _,_,_,_)=>False
def Iq(lim:Nat)(x:Al×eJ×List LE×Nat)(σ:List O):Prop:=match x with
 |(.raised _ _,p,lg,st)=>σ=gc (dG lim st) (valO lg) (dz lg) [] (.stk (p.map lZ) []) []
 |_=>False
def M1(lim:Nat)(nd:Nd)(s:Str)(bg:Nat)(x:Al×eJ×List LE×Nat)(N:Nat)(σ:List O):Prop:=
 ∃ch a ns p lg st,σ=zp lim st lg nd s bg (IK ch a ns) (.stk (p.map lZ) []) []/\ko s lim N ch a ns p lg st=some x/\vY s p lg st/\a<=s.length/\ns.length<=st
theorem jm(s:Str)(lim n:Nat)(i:jL)(r:List jL)(a:Nat)(ns:List Str)(p:eJ)(lg:List LE)(st:Nat):ko s lim (n+1) (i::r) a ns p lg st=if lim<st+1 then some (.raised i r,p,lg,st+1) else
  match adv s i r a ns p lg with
  |(.no,p,lg)=>some (.brk i r,p,lg,st+1)
  |(.lost,p,lg)=>some (.lost,p,lg,st+1)
  |(.way t,p,lg)=>ko s lim n t.ch t.at_ t.ns p lg (st+1):=rfl
nonrec theorem Gp{b:Bs}{st:Nat}{s:Str}{lg:List LE}{p:eJ}{EI:eW}{bg:Nat}{rz:Prop}{a:Nat}{i:jL}{r:List jL}{ns:List Str}{{lim:Nat}}{{nd:Nd}}(G:dI b)(hs:s.length<=8)(hlim:lim<990){x:Al×eJ×List LE×Nat}(SX:(∃i r p l t,x=(Al.raised i r,p,l,t))->rz/\im b EI){n:Nat}(h1:ko s lim n (i::r) a ns p lg st=some x)(tb:vY s p lg st)(ha:a<=s.length)(hn:ns.length<=st):
  iE (C b) 40 (fe [573,608]) (fe [573]) EI rz 20 7 (d0 eG) 5 (zp lim st lg nd s bg (IK (i::r) a ns) (.stk (p.map lZ) []) []) (FC lim nd s bg x) (Iq lim x) (λσ'=>∃N',N'<n/\M1 lim nd s bg x N' σ'):=by
 have stb:=tb.stb;cases n with
 |zero=>injection h1
 |succ n=>
  rw[jm] at h1
  by_cases A':lim<st+1
  .rw[if_pos A'] at h1
   have h1:=(ac h1).symm;subst h1;obtain⟨z1,z2⟩:=SX ⟨_,_,_,_,_,rfl⟩;exact nQ z1 [0,1,2,3,4,5,6] (A8 ..) ⟨CZ z2 A' stb _,N4⟩
    (.U (st:=st+1) () .z (.y (.pl (by rfl) p)) .z) rfl
  .rw[if_neg A'] at h1
   cases hx:adv s i r a ns p lg with
   |mk y q=>
    obtain⟨p',G'⟩:=q;rw[hx] at h1;obtain⟨k1,k2,k3,k4⟩:=CS hx ha;have A:=Kc (b:=b) (lim:=lim) (st:=st+1) G hs ha (by have:=tb.lgb;omega) (by have:=tb.pl;omega) (by omega) hx (iH (d6 0 nd) s (bg:Int) (hH (rB (i::r)) (.int true (a:Int)) (.tup (ns.map iC))));have Sx:=mI (b:=b) (lim:=lim) (lg:=lg) G A' [.frame (iH (d6 0 nd) s (bg:Int) (hH (rB (i::r)) (.int true (a:Int)) (.tup (ns.map iC)))),.stk (p.map lZ) []];have tb':vY s p' G' (st+1):=tb.adv (by omega) A' ha hn ⟨k1,k2,k3,k4⟩;cases y with
    |no=>
     have h1:=(ac h1).symm;subst h1;exact E6 (v:=.none) [0,1,2,3,4,5,6] (I9 ..) ⟨A,Sx,N4⟩
      (.U (st:=st+1) () (.five (tl:=hH (rB (i::r)) (.int true (a:Int)) (.tup (ns.map iC))++[(dQ,.none)]) () (.k rfl (.ch (by rfl) (i::r)) .z)) (.y (.pl (by rfl) p')) .z) ⟨rfl,rfl⟩
    |lost=>
     have h1:=(ac h1).symm;subst h1;exact fT [0,1,2,3,4,5,6] (Er ..) ⟨A,Sx,N4⟩
      (.U (st:=st+1) () .z (.y (.pl (by rfl) p')) .z) .s ⟨rfl,rfl⟩
    |way t=>
     have kt:=k1 t rfl;exact eS [0,1,2,3,4,5,6] (Hk ..) ⟨A,Sx,N4⟩
      (.U (st:=st+1) () (.C (ch:=t.ch) (a:=t.at_) (ns:=t.ns) (w:=[(dQ,.tup [rB t.ch,.int true (t.at_:Int),.tup (t.ns.map iC)])]) ()) (.y (.pl (by rfl) p')) .z) ⟨n,aX _,t.ch,t.at_,t.ns,p',G',st+1,rfl,h1,tb',kt.1,by omega⟩
nonrec theorem zX{b:Bs}{lim st:Nat}{s:Str}{lg:List LE}{p:eJ}{EI:eW}{nd:Nd}{bg:Nat}{rz:Prop}{n a:Nat}{ns:List Str}(G:dI b)(hs:s.length<=8)(hlim:lim<990){x:Al×eJ×List LE×Nat}(SX:(∃i r p l t,x=(Al.raised i r,p,l,t))->rz/\im b EI){ch:List jL}(h1:ko s lim n ch a ns p lg st=some x)(tb:vY s p lg st)(ha:a<=s.length)(hn:ns.length<=st):dL ((C b).at (20+40)) EI rz eG 5 (zp lim st lg nd s bg (IK ch a ns) (.stk (p.map lZ) []) []) (FC lim nd s bg x) (Iq lim x):=by
 show dL _ _ _ (.while (.cmp .IsNot (.loc fF) (.cst .none)) (d0 eG)) _ _ _ _;refine oo (c:=C b) (r:=40) (n:=20) (k:=7) (orc:=fe [573,608]) (orc':=fe [573]) G.X G.F (dD G ()) (dD G ()) (ao _) (M1 lim nd s bg x) (λN σ hI=>?_) n ⟨ch,a,ns,p,lg,st,rfl,h1,tb,ha,hn⟩;obtain⟨ch,a,ns,p,lg,st,rfl,h1,tb,ha,hn⟩:=hI;cases ch with
 |nil=>
  cases N with
  |zero=>injection h1
  |succ N=>
   have h1:=(ac h1).symm;subst h1;exact⟨[],false,⟨_,[],[]⟩,rfl,(λI m=>by cases m),⟨some,dg.id ⟨rfl,rfl⟩⟩⟩
 |cons i r=>exact⟨[],true,⟨_,[],[]⟩,rfl,(λI m=>by cases m),Gp G hs hlim SX h1 tb ha hn⟩
def Nb(s:Str)(lim st:Nat)(y:Al)(p':eJ)(G':List LE)(C':Nat):Prop:=(∀i r,y≠ .raised i r)->(vY s p' G' C'/\∀a' N0,y= .fin a' N0->N0.length<=C')/\(st<=lim->C'<=lim)
theorem Ag{s:Str}{lim:Nat}(hlim:lim<990){y:Al}{p':eJ}{G':List LE}{C':Nat}(n:Nat):∀{ch:List jL} {a:Nat} {ns:List Str} {p:eJ} {lg:List LE} {st:Nat},ko s lim n ch a ns p lg st=some (y,p',G',C')->vY s p lg st->a<=s.length->ns.length<=st->Nb s lim st y p' G' C':=by
 induction n with
 |zero=>intro ch a ns p lg st h;injection h
 |succ n ih=>
  intro ch a ns p lg st h tb ha hn;cases ch with
  |nil=>injection h;exact λI=>⟨⟨tb,λa' N0 e=>by cases e;exact hn⟩,λh=>h⟩
  |cons i r=>
   rw[jm] at h
   by_cases A':lim<st+1
   .rw[if_pos A'] at h
    injection h;exact λnr=>absurd rfl (nr i r)
   .rw[if_neg A'] at h
    cases hx:adv s i r a ns p lg with
    |mk y q=>
     obtain⟨p1,L'⟩:=q;rw[hx] at h;have k:=CS hx ha;have tb':=tb.adv hlim A' ha hn k;cases y with
     |no=>injection h;exact λI=>⟨⟨tb',λa' N0 e=>by injection e⟩,λI=>bA A'⟩
     |lost=>injection h;exact λI=>⟨⟨tb',λa' N0 e=>by injection e⟩,λI=>bA A'⟩
     |way t=>exact λnr=>(ih h tb' (k.1 t rfl).1 (ax (k.1 t rfl).2 (aC hn)) nr).imp id λz I=>z (bA A')
theorem EG{s:Str}{lim:Nat}(hlim:lim<990)(n:Nat){ch:List jL}{a:Nat}{ns:List Str}{p:eJ}{lg:List LE}{st:Nat}{y:Al}{p':eJ}{G':List LE}{C':Nat}(h:ko s lim n ch a ns p lg st=some (y,p',G',C'))(tb:vY s p lg st)(ha:a<=s.length)(hn:ns.length<=st)
  (nr:∀i r,y≠ .raised i r):vY s p' G' C'/\∀a' N0,y= .fin a' N0->N0.length<=C':=(Ag hlim n h tb ha hn nr).1
def C3(lim:Nat)(nd:Nd)(s:Str)(bg:Nat)(x:ze×eJ×List LE×Nat)(fl:Fl)(σ:List O):Prop:=match x with
 |(.none,_,lg,st)=>fl= .next/\σ=zp lim st lg nd s bg [] (.stk [] []) []
 |(.lost _,_,lg,st)=>fl= .ret (.str true jy)/\σ=gc (dG lim st) (valO lg) (dz lg) [] .any []
 |(.fin a ns,_,lg,st)=>fl= .ret (.tup [.int true (a:Int),.obj 7])/\σ=gc (dG lim st) (valO lg) (dz lg) [] .any [.list true (ns.map iC)]
 |(.raised,_,_,_)=>False
def CT(lim:Nat)(x:ze×eJ×List LE×Nat)(σ:List O):Prop:=match x with
 |(.raised,_,lg,st)=>σ=gc (dG lim st) (valO lg) (dz lg) [] .any []
 |_=>False
def Lr(lim:Nat)(nd:Nd)(s:Str)(bg:Nat)(x:ze×eJ×List LE×Nat)(N:Nat)(σ:List O):Prop:=
 ∃p lg st,σ=zp lim st lg nd s bg [] (.stk (p.map lZ) []) []/\uA s lim N p lg st=some x/\vY s p lg st
theorem ji(s:Str)(lim n:Nat)(t:Tw)(p:eJ)(lg:List LE)(st:Nat):uA s lim (n+1) (some t::p) lg st=match ko s lim (lim+2) t.ch t.at_ t.ns p lg st with
  |none=>none
  |some (.raised _ _,p,lg,st)=>some (.raised,p,lg,st)
  |some (.brk _ _,p,lg,st)=>uA s lim n p lg st
  |some (.lost,p,lg,st)=>some (.lost 1,p,lg,st)
  |some (.fin a ns,p,lg,st)=>some (.fin a ns,p,lg,st):=rfl
theorem wc{b:Bs}{lim st:Nat}{s:Str}{lg:List LE}{p:eJ}{nd:Nd}{bg:Nat}(G:dI b){EI:eW}{rz:Prop}{ch:List jL}{a:Nat}{ns:List Str}{NP:Fl->List O->Prop}{XP:List O->Prop}(L:dL ((C b).at 60) EI rz eG 5 (zp lim st lg nd s bg (IK ch a ns) (.stk (p.map lZ) []) []) NP XP):
  dL ((C b).at 60) EI rz eG 5 (zp lim st lg nd s bg [(dQ,.tup [rB ch,.int true (a:Int),.tup (ns.map iC)]),(fF,rB ch),(dW,.int true (a:Int)),(dq,.tup (ns.map iC))] (.stk (p.map lZ) []) []) NP XP:=
 dL.entry (H':=zp lim st lg nd s bg (IK ch a ns) (.stk (p.map lZ) []) []) (dg.to (l:=[0,1,2,3,4,5,6]) rfl rfl
  (.U () (.five () (.k rfl (.ch (by rfl) ch) (.k rfl .i (.k rfl (.t (.nps (by rfl) ns)) .z)))) (.y (.pl (by rfl) p)) .z)) L
nonrec theorem EA{b:Bs}{lim st:Nat}{s:Str}{lg:List LE}{p:eJ}{EI:eW}{nd:Nd}{bg:Nat}{rz:Prop}(G:dI b)(hs:s.length<=8)(hlim:lim<990){x:ze×eJ×List LE×Nat}(SX:(∃p l t,x=(ze.raised,p,l,t))->rz/\im b EI){n:Nat}{q:Option Tw}(h1:uA s lim n (q::p) lg st=some x)(tb:vY s (q::p) lg st):iE (C b) 60 (fe []) (fe []) EI rz 20 7 (d0 eY) 5 (zp lim st lg nd s bg [] (.stk ((q::p).map lZ) []) []) (C3 lim nd s bg x) (CT lim x) (λσ'=>∃N',N'<n/\Lr lim nd s bg x N' σ'):=by
 have stb:=tb.stb;have hpl:(p.map lZ).length+1<2^19:=by rw[af];have:=tb.pl;simp only[bJ] at this;omega
 cases n with
 |zero=>injection h1
 |succ n=>
  cases q with
  |none=>
   have h1:=(ac h1).symm;subst h1;exact fT [0,1,2,3,4,5,6] (D5 ..) ⟨by show 0+(_+1)<_;omega,N4⟩
    (.U (st:=st) () .z .stkAny .z) .s ⟨rfl,rfl⟩
  |some t=>
   have kt:=tb.at_ t (.head _);have tb':vY s p lg st:=⟨λt m=>tb.at_ t (.tail _ m),by have:=tb.pl;simp only[bJ] at this;omega,tb.lgb,tb.stb⟩
   rw[ji] at h1;have hlen:0+(lZ (some t)::p.map lZ).length<2^20:=by show 0+(_+1)<_;omega
   cases hi:ko s lim (lim+2) t.ch t.at_ t.ns p lg st with
   |none=>rw[hi] at h1;injection h1
   |some q=>
    obtain⟨y,p',G',C'⟩:=q;rw[hi] at h1;have nrm:(∀i r,y≠ .raised i r)->∀fl H',FC lim nd s bg (y,p',G',C') fl H'->(∀f' o',FC lim nd s bg (y,p',G',C') f' o'->f'=fl/\o'=H')->Lt b 60 eG 5 (zp lim st lg nd s bg [(dQ,.tup [rB t.ch,.int true (t.at_:Int),.tup (t.ns.map iC)]),(fF,rB t.ch),(dW,.int true (t.at_:Int)),(dq,.tup (t.ns.map iC))] (.stk (p.map lZ) []) []) fl H':=λnr fl H' I un=>by
     have L:=zX (EI:=λI I I=>True) (rz:=False) (nd:=nd) (bg:=bg) G hs hlim (λ⟨i,r,_,_,_,e⟩=>absurd (az (·.1) e) (nr i r)) hi tb' kt.1 kt.2;have L:=wc G L;refine dL.normal (XP:=Iq lim (y,p',G',C')) λA env z s₁ ρ l Q E rm en ck R ad pe fr q qx=>L A env z s₁ ρ l Q E rm en ck R ad pe fr (λρ' s' f N1 σ' k r v=>?_) qx;exact q ρ' s' f N1 σ' (un f σ' k) r v
    cases y with
    |raised i r=>
     have h1:=(ac h1).symm;subst h1;obtain⟨z1,z2⟩:=SX ⟨_,_,_,rfl⟩;have L:=zX (EI:=EI) (rz:=True) (nd:=nd) (bg:=bg) G hs hlim (λI=>⟨N4,z2⟩) hi tb' kt.1 kt.2;have L:=wc G L;exact nQ z1 [0,1,2,3,4,5,6] (Bk ..) ⟨dL.raises L (λI I h=>h),hlen,N4⟩
      (.U (st:=C') () .z .stkAny .z) rfl
    |brk i r=>
     have ok:=EG hlim _ hi tb' kt.1 kt.2 (λI I z=>by injection z);exact eS [0,1,2,3,4,5,6] (G3 ..)
      ⟨nrm (λI I z=>by injection z) _ _ ⟨rfl,rfl⟩ (λI I k=>k),hlen,N4⟩
      (.U (st:=C') () (.five (tl:=[(fF,.tup [Le i,rB r])]) () .z) (.y (.pl (by rfl) p')) .z) ⟨n,aX _,p',G',C',rfl,h1,ok.1⟩
    |lost=>
     have h1:=(ac h1).symm;subst h1;exact fT [0,1,2,3,4,5,6] (DE ..)
      ⟨nrm (λI I z=>by injection z) _ _ ⟨rfl,rfl⟩ (λI I k=>k),hlen,N4⟩ (.U (st:=C') () .z .stkAny .z) .s ⟨rfl,rfl⟩
    |fin a ns=>
     have ok:=EG hlim _ hi tb' kt.1 kt.2 (λI I z=>by injection z);have h1:=(ac h1).symm;subst h1;have nl:(ns.map iC).length<2^20:=by rw[af];have:=ok.2 a ns rfl;have:=ok.1.stb;omega
     exact fT [0,1,2,3,4,5,6,7] (Fx ..)
      ⟨nl,nrm (λI I z=>by injection z) _ _ ⟨rfl,rfl⟩ (λI I k=>k),hlen,N4⟩ (.U (st:=C') () .z .stkAny (.k (.l (.nps (by rfl) ns)) .z)) (.t (.k .i (.k (.o (by rfl)) .z))) ⟨rfl,rfl⟩
nonrec theorem DP{b:Bs}{lim st:Nat}{s:Str}{lg:List LE}{EI:eW}{bg:Nat}{rz:Prop}{n:Nat}{{p:eJ}}{{nd:Nd}}(G:dI b)(hs:s.length<=8)(hlim:lim<990){x:ze×eJ×List LE×Nat}(SX:(∃p l t,x=(ze.raised,p,l,t))->rz/\im b EI)(h1:uA s lim n p lg st=some x)(tb:vY s p lg st):
  dL ((C b).at (20+60)) EI rz eY 5 (zp lim st lg nd s bg [] (.stk (p.map lZ) []) []) (C3 lim nd s bg x) (CT lim x):=by
 show dL _ _ _ (.while (.cmp .Gt (.call (.glb fW) [(.loc gk)]) (.cst (.int 0))) (d0 eY)) _ _ _ _;refine oo (c:=C b) (r:=60) (n:=20) (k:=7) (orc:=fe []) (orc':=fe []) G.X G.F (dD G ()) (dD G ()) (ao _) (Lr lim nd s bg x) (λN σ hI=>?_) n ⟨p,lg,st,rfl,h1,tb⟩;obtain⟨p,lg,st,rfl,h1,tb⟩:=hI;cases p with
 |nil=>
  cases N with
  |zero=>injection h1
  |succ N=>
   have h1:=(ac h1).symm;subst h1;exact⟨[.b false],false,⟨_,[],[decide ((0:Int)<((0+0:Nat):Int))=false,0+0<2^62]⟩,rfl,gh (l:=[decide ((0:Int)<((0+0:Nat):Int))=false,0+0<2^62]) ⟨by decide,by decide,N4⟩,⟨some,dg.id ⟨rfl,rfl⟩⟩⟩
 |cons q p=>
  have hpl:(p.map lZ).length+1<2^19:=by
   rw[af];have h1:=tb.pl;have h2:=tb.stb;simp only[bJ] at h1;omega
  refine⟨[.b true],true,⟨_,[],[decide ((0:Int)<((0+((p.map lZ).length+1):Nat):Int))=true,0+((p.map lZ).length+1)<2^62]⟩,rfl,gh (l:=[decide ((0:Int)<((0+((p.map lZ).length+1):Nat):Int))=true,0+((p.map lZ).length+1)<2^62])
   ⟨av (by omega),by omega,N4⟩,EA G hs hlim SX h1 tb⟩
def Mr(n:Nat):ze->V
 | .fin a _=>.tup [.int true (a:Int),.obj n]
 | .lost _=>.str false jy
 |_=>.none
def IR:ze->List O
 | .fin _ ns=>[.list true (ns.map iC)]
 |_=>[]
abbrev nG(lim st:Nat)(lg:List LE)(tl:List O):List O:=lv (dG lim st) (valO lg) (dz lg) tl
theorem ROs.Q{lim st:Nat}{lg:List LE}{f:Nat->Option Nat}{tl tl':List O}(h:∀i,i<5->f i=some i)(k:ROs f tl tl'):ROs f (nG lim st lg tl) (nG lim st lg tl'):=
 .k .ref (.k (.host (h _ ()) (h _ ()) (h _ ())) (.k (.valO lg) (.k (.l .z) (.k (.log lg) k))))
def CE(nd:Nd)(bg:Nat):eJ:=[some ⟨[.nd nd],bg,[]⟩]
theorem AN{b:Bs}{lim st:Nat}{s:Str}{lg:List LE}{EI:eW}{nd:Nd}{bg:Nat}(G:dI b)(hs:s.length<=8)(hlim:lim<990){x:ze×eJ×List LE×Nat}{rz:Prop}(SX:(∃p l t,x=(ze.raised,p,l,t))->rz/\im b EI)(hb:bg<=s.length)(hl:lg.length<=st)(A':st<1000)
  (h1:uA s lim (lim+2) (CE nd bg) lg st=some x):dL ((C b).at 80) EI rz eY 5 (zp lim st lg nd s bg [] (.list true [.tup [.tup [d6 0 nd,.none],.int true (bg:Int),.tup []]]) []) (C3 lim nd s bg x) (CT lim x):=by
 refine dL.entry (H':=zp lim st lg nd s bg [] (.stk ((CE nd bg).map lZ) []) []) (dg.to (l:=[0,1,2,3,4,5,6]) rfl rfl
  (.U () (.five () .z) (.toStk (.k (.t (.k (.t (.k (.nd (by rfl) nd) (.k .n .z))) (.k .i (.k (.t .z) .z)))) .z)) .z)) ?_
 exact DP (p:=CE nd bg) G hs hlim SX h1 ⟨λt m=>by
  cases aj.mp m;exact⟨hb,aJ _⟩,aC (aJ _),hl,A'⟩
nonrec theorem F7{b:Bs}{lim st:Nat}{s:Str}{lg:List LE}{nd:Nd}{bg:Nat}(G:dI b)(hs:s.length<=8)(hlim:lim<990){x:ze×eJ×List LE×Nat}(hb:bg<=s.length)(hl:lg.length<=st)(A':st<1000)(h1:uA s lim (lim+2) (CE nd bg) lg st=some x)(hr:∀p l t,x≠(.raised,p,l,t)):Ct b 100 601 [d6 0 nd,.str true s,.int true (bg:Int),.obj 1] (nG lim st lg []) (Mr 5 x.1) (nG lim x.2.2.2 x.2.2.1 (IR x.1)):=by
 have L:=AN (EI:=λI I I=>True) (rz:=False) G hs hlim (λ⟨p,l,t,e⟩=>absurd e (hr p l t)) hb hl A' h1;obtain⟨y,p',G',C'⟩:=x;cases y with
 |raised=>exact absurd rfl (hr p' G' C')
 |none=>exact dF G (r:=80) (n:=20) (l₀:=[]) [0,1,2,3,4] (Cq ..) ⟨dL.normal L,N4⟩ (.Q () .z) .n
 |lost k=>exact dF G (r:=80) (n:=20) (l₀:=[]) [0,1,2,3,4] (Cw ..) ⟨dL.normal L,N4⟩ (.Q () .z) .s
 |fin a ns=>exact dF G (r:=80) (n:=20) (l₀:=[]) [0,1,2,3,4,7] (DM ..) ⟨dL.normal L,N4⟩ (.Q () (.k (.l (.nps (by rfl) ns)) .z)) (.t (.k .i (.k (.o (by rfl)) .z)))
theorem FU{b:Bs}{lim st:Nat}{s:Str}{lg:List LE}{EI:eW}{nd:Nd}{bg:Nat}(G:dI b)(hs:s.length<=8)(hlim:lim<990)(hb:bg<=s.length)(hl:lg.length<=st)(A':st<1000)(SX:im b EI){p':eJ}{G':List LE}{C':Nat}(h1:uA s lim (lim+2) (CE nd bg) lg st=some (.raised,p',G',C')):
  eU ((C b).at 100) EI 601 [d6 0 nd,.str true s,.int true (bg:Int),.obj 1] (nG lim st lg []) (nG lim C' G' []):=by
 have L:=AN (EI:=EI) (rz:=True) G hs hlim (λI=>⟨N4,SX⟩) hb hl A' h1;exact kW G (r:=80) (n:=20) (l₀:=[]) (l₁:=[]) [0,1,2,3,4] (yR ..) ⟨dL.raises L (λI I h=>h),N4⟩ (.Q () .z)
/-! match_plain -/
def CC(s:Str)(nd:Nd)(lim:Nat):Nat->Nat->List LE->Nat->Option (mQ×List LE×Nat)
 |0,_,lg,st=>some (.nope 0,lg,st)
 |n+1,j,lg,st=>match uA s lim (lim+2) (CE nd j) lg st with
  |none=>none
  |some (.none,_,lg,st)=>CC s nd lim n (j+1) lg st
  |some (.lost _,_,lg,st)=>some (.nope 1,lg,st)
  |some (.fin a ns,_,lg,st)=>some (.met j a ns,lg,st)
  |some (.raised,_,lg,st)=>some (.raised,lg,st)
theorem xq(s:Str)(nd:Nd)(lim n j:Nat)(lg:List LE)(st:Nat):CC s nd lim (n+1) j lg st=match uA s lim (lim+2) (CE nd j) lg st with
  |none=>none
  |some (.none,_,lg,st)=>CC s nd lim n (j+1) lg st
  |some (.lost _,_,lg,st)=>some (.nope 1,lg,st)
  |some (.fin a ns,_,lg,st)=>some (.met j a ns,lg,st)
  |some (.raised,_,lg,st)=>some (.raised,lg,st):=rfl
theorem JM{s:Str}{lim:Nat}(hlim:lim<990){y:ze}{p':eJ}{G':List LE}{C':Nat}(nr:y≠ .raised)(n:Nat):∀{p:eJ} {lg:List LE} {st:Nat},uA s lim n p lg st=some (y,p',G',C')->st<=lim->vY s p lg st->C'<=lim/\G'.length<=C':=by
 induction n with
 |zero=>intro p lg st h;injection h
 |succ n ih=>
  intro p lg st h hs tb;cases p with
  |nil=>injection h;exact⟨hs,tb.lgb⟩
  |cons t p=>
   cases t with
   |none=>injection h;exact⟨hs,tb.lgb⟩
   |some t=>
    rw[ji] at h;have kt:=tb.at_ t (.head _);have tb':vY s p lg st:=⟨λt m=>tb.at_ t (.tail _ m),cJ tb.pl,tb.lgb,tb.stb⟩
    cases hi:ko s lim (lim+2) t.ch t.at_ t.ns p lg st with
    |none=>rw[hi] at h;injection h
    |some q=>
     obtain⟨z,p1,L',st1⟩:=q;rw[hi] at h;have k:=Ag hlim _ hi tb' kt.1 kt.2;cases z with
     |raised i r=>cases h;exact absurd rfl nr
     |brk i r=>exact ih h ((k (λI I z=>by injection z)).2 hs) (k (λI I z=>by injection z)).1.1
     |lost=>injection h;exact⟨(k (λI I z=>by injection z)).2 hs,(k (λI I z=>by injection z)).1.1.lgb⟩
     |fin a ns=>injection h;exact⟨(k (λI I z=>by injection z)).2 hs,(k (λI I z=>by injection z)).1.1.lgb⟩
abbrev Hz(nd:Nd)(s:Str)(an:Bool)(tl:List (Nm×V)):O:=.frame (iI (d6 0 nd) s an tl)
def Lw(lim:Nat)(nd:Nd)(s:Str)(an:Bool)(x:mQ×List LE×Nat)(fl:Fl)(σ:List O):Prop:=match x with
 |(.nope 0,lg,st)=>fl= .next/\σ=nG lim st lg [Hz nd s an []]
 |(.nope (_+1),lg,st)=>fl= .ret .none/\σ=nG lim st lg [.frame []]
 |(.met j e ns,lg,st)=>fl= .ret (.tup [.int true (j:Int),.int true (e:Int),.obj 6])/\σ=nG lim st lg [.frame [],.list true (ns.map iC)]
 |(.raised,_,_)=>False
def KR(lim:Nat)(x:mQ×List LE×Nat)(σ:List O):Prop:=match x with
 |(.raised,lg,st)=>σ=nG lim st lg [.frame []]
 |_=>False
def MN(lim:Nat)(nd:Nd)(s:Str)(an:Bool)(x:mQ×List LE×Nat)(n j:Nat)(σ:List O):Prop:=
 ∃lg st,σ=nG lim st lg [Hz nd s an []]/\CC s nd lim (n - j) j lg st=some x/\lg.length<=st/\st<=lim
theorem FrR.mp{s:Str}{nd:Nd}{an:Bool}{f:Nat->Option Nat}{tl:List (Nm×V)}(h:∀i,i<5->f i=some i):FrR f (iI (d6 0 nd) s an tl) (iI (d6 0 nd) s an []):=
 .k rfl (.nd (h _ ()) nd) (.k rfl .s (.k rfl .b (.k rfl (.o (h _ ())) .z)))
nonrec theorem vD{b:Bs}{lim st:Nat}{s:Str}{lg:List LE}{nd:Nd}{bg:Nat}(G:dI b)(hs:s.length<=8)(hlim:lim<990){x:ze×eJ×List LE×Nat}(hb:bg<=s.length)(hl:lg.length<=st)(A':st<1000)(h1:uA s lim (lim+2) (CE nd bg) lg st=some x)(hr:∀p l t,x≠(.raised,p,l,t))(f1 f2:O):Ct b 100 601 [d6 0 nd,.str true s,.int true (bg:Int),.obj 1] (nG lim st lg [f1,f2]) (Mr 7 x.1) (nG lim x.2.2.2 x.2.2.1 (f1::f2::IR x.1)):=by
 have T:=F7 (b:=b) G hs hlim hb hl A' h1 hr;obtain⟨y,p',G',C'⟩:=x;have q:=fJ.frame (l:=[0,1,2,3,4]) (os:=nG lim st lg [f1,f2]) (I':=nG lim st lg []) (news:=nG lim C' G' (IR y)) (vs:=[d6 0 nd,.str true s,.int true (bg:Int),.obj 1]) (w:=Mr 7 y) rfl T rfl ()
  (.Q () .z) (.k (.nd (by rfl) nd) (.k .s (.k .i (.k (.o rfl) .z)))) (.Q (ru rfl) (by cases y<;>first | exact .z | exact .k (.l (.nps (by rfl) _)) .z))
  (by cases y<;>first | exact .n | exact .s | exact .t (.k .i (.k (.o (by rfl)) .z)))
 cases y<;>exact q
theorem Db{b:Bs}{lim st:Nat}{s:Str}{lg:List LE}{EI:eW}{nd:Nd}{bg:Nat}(G:dI b)(hs:s.length<=8)(hlim:lim<990)(hb:bg<=s.length)(hl:lg.length<=st)(A':st<1000)(SX:im b EI){p':eJ}{G':List LE}{C':Nat}(h1:uA s lim (lim+2) (CE nd bg) lg st=some (.raised,p',G',C'))(f1 f2:O):
  eU ((C b).at 100) EI 601 [d6 0 nd,.str true s,.int true (bg:Int),.obj 1] (nG lim st lg [f1,f2]) (nG lim C' G' [f1,f2]):=by
 have q:=eU.frame (l:=[0,1,2,3,4]) (os:=nG lim st lg [f1,f2]) (I':=nG lim st lg []) (news:=nG lim C' G' []) (vs:=[d6 0 nd,.str true s,.int true (bg:Int),.obj 1]) rfl (FU G hs hlim hb hl A' SX h1) rfl ()
  (.Q () .z) (.k (.nd (by rfl) nd) (.k .s (.k .i (.k (.o rfl) .z)))) (.Q (ru rfl) .z)
 exact q
nonrec theorem Gz{b:Bs}{lim st:Nat}{s:Str}{lg:List LE}{EI:eW}{n j:Nat}{rz:Prop}{{nd:Nd}}{{an:Bool}}{{x:mQ×List LE×Nat}}(G:dI b)(hs:s.length<=8)(hlim:lim<990)(SX:(∃l t,x=(mQ.raised,l,t))->rz/\im b EI)(hj:j<n)(hn:n<=s.length+1)(h1:CC s nd lim (n - j) j lg st=some x)(hl:lg.length<=st)(A':st<=lim):
  iE (C b) 100 (fe [601]) (fe [601]) EI rz 30 6 (d0 fN) 5 (nG lim st lg [Hz nd s an [(dB,.int true (j:Int))]]) (Lw lim nd s an x) (KR lim x) (MN lim nd s an x n (j+1)):=by
 rw[show n - j=(n - (j+1))+1 from by omega,xq] at h1;have hb:j<=s.length:=by omega
 have hst':st<1000:=by omega
 have tb:vY s (CE nd j) lg st:=⟨λt m=>by cases aj.mp m;exact⟨hb,aJ _⟩,aC (aJ _),hl,hst'⟩
 cases hm:uA s lim (lim+2) (CE nd j) lg st with
 |none=>rw[hm] at h1;injection h1
 |some q=>
  obtain⟨y,p',G',C'⟩:=q;rw[hm] at h1;cases y with
  |raised=>
   have h1:=(ac h1).symm;subst h1;obtain⟨z1,z2⟩:=SX ⟨_,_,rfl⟩;exact nQ z1 [0,1,2,3,4,5] (zk ..) ⟨Db G hs hlim hb hl hst' z2 hm _ _,N4⟩ (.Q () (.k (.f .z) .z)) rfl
  |none=>
   have bd:=JM hlim (λz=>by injection z) _ hm A' tb;exact eS [0,1,2,3,4,5] (Bu ..) ⟨vD G hs hlim hb hl hst' hm (λI I I z=>by cases z) _ _,N4⟩
    (.Q () (.k (.f (.mp (tl:=[(dB,.int true (j:Int)),(dj,.none)]) ())) .z)) ⟨G',C',rfl,h1,bd.2,bd.1⟩
  |lost k=>
   have h1:=(ac h1).symm;subst h1;exact fT [0,1,2,3,4,5] (CA ..) ⟨vD G hs hlim hb hl hst' hm (λI I I z=>by cases z) _ _,N4⟩
    (.Q () (.k (.f .z) .z)) .n ⟨rfl,rfl⟩
  |fin a ns=>
   have h1:=(ac h1).symm;subst h1;exact fT [0,1,2,3,4,5,7] (C7 ..) ⟨vD G hs hlim hb hl hst' hm (λI I I z=>by cases z) _ _,N4⟩
    (.Q () (.k (.f .z) (.k (.l (.nps (by rfl) ns)) .z))) (.t (.k .i (.k .i (.k (.o (by rfl)) .z)))) ⟨rfl,rfl⟩
nonrec theorem AT{b:Bs}{lim st:Nat}{s:Str}{lg:List LE}{EI:eW}{rz:Prop}{{nd:Nd}}{{an:Bool}}{{x:mQ×List LE×Nat}}(G:dI b)(hs:s.length<=8)(hlim:lim<990)(SX:(∃l t,x=(mQ.raised,l,t))->rz/\im b EI)(h1:CC s nd lim (dJ s an) 0 lg st=some x)(hl:lg.length<=st)(A':st<=lim):
  dL ((C b).at (30+100)) EI rz fN 5 (nG lim st lg [Hz nd s an []]) (Lw lim nd s an x) (KR lim x):=by
 have K:=dD G (l:=[601]) ();have hi:uH ((C b).at (30+100)) (.call (.glb gJ) [(.ite (.loc cT) (.cst (.int 1)) (.bin .Add (.call (.glb fW) [(.loc cS)]) (.cst (.int 1))))]) 5 (nG lim st lg [Hz nd s an []]) (.rng (dJ s an)) (nG lim st lg [Hz nd s an []]):=by
  cases an with
  |true=>exact iA (c:=C b) (st:=⟨nG lim st lg [Hz nd s true []],[],[]⟩) (ch:=[]) (y:=false) (m:=1) G.X G.F K rfl (by rfl) (λI m=>by cases m) ()
  |false=>exact iA (c:=C b) (st:=⟨nG lim st lg [Hz nd s false []],[],[s.length<2^20]⟩) (ch:=[]) (y:=true) (m:=s.length+1) G.X G.F K rfl (by rfl) (λI m=>by cases m with | head=>show s.length<2^20;omega | tail _ m=>cases m) (by omega)
 have hn:dJ s an<=s.length+1:=by unfold dJ;split<;>omega
 show dL _ _ _ (.for dB (.call (.glb gJ) [(.ite (.loc cT) (.cst (.int 1)) (.bin .Add (.call (.glb fW) [(.loc cS)]) (.cst (.int 1))))]) (d0 fN)) _ _ _ _;refine rN (c:=C b) (k:=6) (N2:=.rng (dJ s an)) G.X G.F K (dD G (l:=[601]) ()) (orc':=fe [601]) (ao _) hi (by intro z;injection z)
  (MN lim nd s an x (dJ s an)) ⟨lg,st,rfl,h1,hl,A'⟩ (λi xs z=>by injection z) (λj σ hI=>by show dJ s an<2^60;omega) (λj σ v hI hv=>?_) (λσ hI=>?_)
 .obtain⟨lg,st,rfl,h1,hl,A'⟩:=hI
  have hv:(if j<dJ s an then some (V.int true (j:Nat)) else none)=some v:=hv
  by_cases z:j<dJ s an
  .rw[if_pos z] at hv
   cases hv;exact⟨⟨nG lim st lg [Hz nd s an [(dB,.int true (j:Int))]],[],[]⟩,rfl,Gz G hs hlim SX z hn h1 hl A'⟩
  .rw[if_neg z] at hv;injection hv
 .obtain⟨lg,st,rfl,h1,hl,A'⟩:=hI
  have h1:CC s nd lim (dJ s an - dJ s an) (dJ s an) lg st=some x:=h1;rw[Nat.sub_self] at h1;have h1:=(ac h1).symm;subst h1;exact⟨some,dg.id ⟨rfl,rfl⟩⟩
nonrec theorem Ga{b:Bs}{lim st:Nat}{s:Str}{lg:List LE}{nd:Nd}{an:Bool}{{x:mQ×List LE×Nat}}(G:dI b)(hs:s.length<=8)(hlim:lim<990)(h1:CC s nd lim (dJ s an) 0 lg st=some x)(hl:lg.length<=st)(A':st<=lim)(hr:∀l t,x≠(.raised,l,t)):
  Ct b 160 587 [d6 0 nd,.str true s,.bool an,.obj 1] (nG lim st lg []) (C6 5 x.1) (nG lim x.2.2 x.2.1 (rM x.1)):=by
 have L:=AT (EI:=λI I I=>True) (rz:=False) G hs hlim (λ⟨l,t,e⟩=>absurd e (hr l t)) h1 hl A';obtain⟨r,G',C'⟩:=x;refine fJ.more (c:=C b) (r:=150) ?_ ();cases r with
 |nope k=>
  match k,L with
  |0,L=>exact dF G (r:=130) (n:=20) (l₀:=[]) [0,1,2,3,4] (Kf ..) ⟨dL.normal L,N4⟩ (.Q () .z) .n
  |k+1,L=>exact dF G (r:=130) (n:=20) (l₀:=[]) [0,1,2,3,4] (KF ..) ⟨dL.normal L,N4⟩ (.Q () .z) .n
 |met j e ns=>exact dF G (r:=130) (n:=20) (l₀:=[]) [0,1,2,3,4,6] (Kq ..) ⟨dL.normal L,N4⟩ (.Q () (.k (.l (.nps (by rfl) _)) .z)) (.t (.k .i (.k .i (.k (.o (by rfl)) .z))))
 |raised=>exact absurd rfl (hr G' C')
theorem Gk{b:Bs}{lim st:Nat}{s:Str}{lg:List LE}{EI:eW}{nd:Nd}{an:Bool}(G:dI b)(hs:s.length<=8)(hlim:lim<990)(SX:im b EI){G':List LE}{C':Nat}(h1:CC s nd lim (dJ s an) 0 lg st=some (.raised,G',C'))(hl:lg.length<=st)(A':st<=lim):
  eU ((C b).at 150) EI 587 [d6 0 nd,.str true s,.bool an,.obj 1] (nG lim st lg []) (nG lim C' G' []):=by
 have L:=AT (EI:=EI) (rz:=True) G hs hlim (λI=>⟨N4,SX⟩) h1 hl A';exact kW G (r:=130) (n:=20) (l₀:=[]) (l₁:=[]) [0,1,2,3,4] (Lo ..) ⟨dL.raises L (λI I h=>h),N4⟩ (.Q () .z)
end
theorem rf{a b:Str}(h:a.cps.toList=b.cps.toList):a=b:=by
 cases a;cases b;exact az Str.mk (Array.toList_inj.mp h)
theorem vK(c d:Nat):Txt.contains ⟨#[c]⟩ ⟨#[d]⟩=decide (d=c):=by
 unfold Txt.contains;rw[StrLaws.found_one];simp
theorem GB(s:Str){a:Nat}(h:a<s.length):(s.cps.toList.drop a).take 1=[s.cps.getD a 0]:=by
 have:a<s.cps.toList.length:=h;rw[List.drop_eq_getElem_cons this];simp [Array.getD,show a<s.cps.size from h]
nonrec theorem rJ{a c:Nat}(s:Str)(ha:a<=s.length):eE s a (.txt ⟨#[c]⟩)=if s.length<a+1 then none else match Txt.contains ⟨#[c]⟩ (gH s a) with | true=>some (a+1) | false=>none:=by
 show(if cut s a (a+1)=⟨#[c]⟩ then some (a+1) else none)=_
 by_cases h:s.length<a+1
 .rw[if_pos h,if_neg]
  intro e;have:=rn s (aA a 1) ha;rw[e] at this;exact absurd (o40 ha this) (Nat.not_le.mpr h)
 .rw[if_neg h]
  unfold gH;rw[vK];have hl:(cut s a (a+1)).cps.toList=[s.cps.getD a 0]:=by
   rw[jq s (aA a 1) ha,show a+1 - a=1 from by omega];exact GB s (by omega)
  by_cases e:s.cps.getD a 0=c
  .rw[if_pos (rf (by rw[hl,e]))]
   rw[av e]
  .rw[if_neg (λz=>e ?_)]
   .rw[ag e]
   .rw[z] at hl
    have:[c]=[s.cps.getD a 0]:=hl;exact(List.cons.inj this).1.symm
theorem GN(s u t:Str){a:Nat}(ha:a<=s.length):cut s a (a+(u++t).length)=u++t↔cut s a (a+u.length)=u/\cut s (a+u.length) (a+u.length+t.length)=t:=by
 have ul:(u++t).length=u.length+t.length:=by show(u.cps++t.cps).size=_;rw[cK];rfl
 have utl:(u++t).cps.toList=u.cps.toList++t.cps.toList:=by show(u.cps++t.cps).toList=_;simp
 rw[ul];constructor
 .intro e
  have l1:=rn s (aA a (u.length+t.length)) ha;rw[e,ul] at l1;have hau:a+u.length<=s.length:=ax (bx (aA _ _) a) (o40 ha l1);have h1:=jq s (aA a (u.length+t.length)) ha;rw[e,utl,show a+(u.length+t.length) - a=u.length+t.length from by omega,List.take_add] at h1;have hu:((s.cps.toList.drop a).take u.length).length=u.cps.toList.length:=by
   rw[cc,List.length_drop];exact Nat.min_eq_left (Nat.le_sub_of_add_le' hau)
  obtain⟨q1,q2⟩:=List.append_inj h1 hu.symm;refine⟨rf ?_,rf ?_⟩
  .rw[jq s (aA _ _) ha,show a+u.length - a=u.length from by omega];exact q1.symm
  .rw[jq s (aA _ _) (by omega),show a+u.length+t.length - (a+u.length)=t.length from by omega,q2,List.drop_drop]
 .rintro⟨e1,e2⟩
  have l1:=rn s (aA a u.length) ha;rw[e1] at l1;have h1:=jq s (aA a u.length) ha
  by_cases hz:a+u.length<=s.length
  .have h2:=jq s (aA (a+u.length) t.length) hz
   rw[e1,show a+u.length - a=u.length from by omega] at h1;rw[e2,show a+u.length+t.length - (a+u.length)=t.length from by omega] at h2;refine rf ?_;rw[jq s (aA _ _) ha,utl,h1,h2,show a+(u.length+t.length) - a=u.length+t.length from by omega,List.take_add,List.drop_drop]
  .exact absurd (o40 ha l1) hz
def xB:gC->HV
 | .ca=>.txt sA
 | .cb=>.txt sB
 | .len1=>.len 1
 | .len0=>.len 0
 |_=>.any
def AE:gC->Bool
 | .fail=>false
 | .fence=>false
 | .abort=>false
 |_=>true
theorem mD{s:Str}{a:Nat}(ha:a<=s.length){b:gC}(hb:AE b):eZ s a b=eE s a (xB b):=by
 cases b with
 |ca=>exact(rJ s ha).symm
 |cb=>exact(rJ s ha).symm
 |len1=>
  show(if s.length<a+1 then none else some (a+1))=(if a+1<=s.length then some (a+1) else none)
  by_cases h:s.length<a+1
  .rw[if_pos h,if_neg (by omega)]
  .rw[if_neg h,if_pos (by omega)]
 |len0=>
  show(if s.length<a+0 then none else some (a+0))=(if a+0<=s.length then some (a+0) else none)
  by_cases h:s.length<a+0
  .rw[if_pos h,if_neg (by omega)]
  .rw[if_neg h,if_pos (by omega)]
 |any=>
  show(if s.length<a+1 then none else match Txt.contains lU (gH s a) with | true=>some (a+1) | false=>none)=(if a<s.length then(match Txt.contains lU (gH s a) with | true=>some (a+1) | false=>none) else none)
  by_cases h:s.length<a+1
  .rw[if_pos h,if_neg (by omega)]
  .rw[if_neg h,if_pos (by omega)]
 |_=>cases hb
def jV(x:fP×List LE)(g:Nat->List Str->Bool->List LE->fP×List LE):fP×List LE:=match x with
 |(.ok a ns f,lg)=>g a ns f lg
 |(.over,lg)=>(.over,lg)
 |(.no,lg)=>(.no,lg)
theorem qu(s:Str)(p:dZ)(ps:List dZ)(a:Nat)(f:Bool)(ns:List Str)(lg:List LE):d3 s (p::ps) a f ns lg=jV (d3 s [p] a f ns lg) λa ns f lg=>d3 s ps a f ns lg:=by
 cases p with
 |cur=>rfl
 |mk m b=>
  rw[i8,i8];cases eh b with
  |true=>rfl
  |false=>
   cases eZ s a b with
   |none=>cases f<;>rfl
   |some e=>cases m<;>rfl
def iY(f:Bool):fP:=if f then .over else .no
def gb(s:Str):List Pc->Nat->Bool->List Str->List LE->fP×List LE
 |[],a,f,ns,lg=>(.ok a ns f,lg)
 | .txt t::ps,a,f,ns,lg=>match eE s a (.txt t) with
  |none=>(iY f,lg)
  |some e=>gb s ps e f ns lg
 | .lf .suc::_,_,_,_,lg=>(.no,lg)
 | .lf (.part p)::ps,a,f,ns,lg=>jV (d3 s [p] a f ns lg) λa ns f lg=>gb s ps a f ns lg
theorem wU(x:fP×List LE)(g h:Nat->List Str->Bool->List LE->fP×List LE):jV (jV x g) h=jV x λa ns f lg=>jV (g a ns f lg) h:=by
 obtain⟨r,lg⟩:=x;cases r<;>rfl
theorem oK(s:Str):∀(p q:List Pc) (a:Nat) (f:Bool) (ns:List Str) (lg:List LE),gb s (p++q) a f ns lg=jV (gb s p a f ns lg) λa ns f lg=>gb s q a f ns lg
 |[],q,a,f,ns,lg=>rfl
 | .txt t::p,q,a,f,ns,lg=>by
  show(match eE s a (.txt t) with | none=>(iY f,lg) | some e=>gb s (p++q) e f ns lg)=jV (match eE s a (.txt t) with | none=>(iY f,lg) | some e=>gb s p e f ns lg) _;cases eE s a (.txt t) with
  |none=>cases f<;>rfl
  |some e=>exact oK s p q e f ns lg
 | .lf .suc::p,q,a,f,ns,lg=>rfl
 | .lf (.part x)::p,q,a,f,ns,lg=>by
  show jV (d3 s [x] a f ns lg) (λa ns f lg=>gb s (p++q) a f ns lg)=jV (jV (d3 s [x] a f ns lg) λa ns f lg=>gb s p a f ns lg) _;rw[wU];congr 1;funext a ns f lg;exact oK s p q a f ns lg
theorem uM(s:Str):∀(p:List Pc) {a:Nat} {f:Bool} {ns:List Str} {lg:List LE} {e:Nat} {ms:List Str} {g:Bool} {G':List LE},gb s p a f ns lg=(.ok e ms g,G')->a<=s.length->e<=s.length
 |[],_,_,_,_,_,_,_,_,h,ha=>by cases h;exact ha
 | .txt t::p,a,f,ns,lg,e,ms,g,G',h,ha=>by
  have h:(match eE s a (.txt t) with | none=>(iY f,lg) | some e=>gb s p e f ns lg)=(.ok e ms g,G'):=h;cases c:eE s a (.txt t) with
  |none=>rw[c] at h;cases f<;>cases h
  |some e'=>rw[c] at h;exact uM s p h (kF ha c)
 | .lf .suc::p,_,_,_,_,_,_,_,_,h,_=>by cases h
 | .lf (.part x)::p,a,f,ns,lg,e,ms,g,G',h,ha=>by
  have h:jV (d3 s [x] a f ns lg) (λa ns f lg=>gb s p a f ns lg)=(.ok e ms g,G'):=h;cases c:d3 s [x] a f ns lg with
  |mk r l1=>
   rw[c] at h;cases r with
   |ok a1 n1 f1=>exact uM s p h (lH s [x] a f ns lg c ha).1
   |over=>cases h
   |no=>cases h
def kx(l:Lf):Pc:=match iz l with
 |some t=>.txt t
 |none=>.lf l
theorem BE(s u t:Str)(ps:List Pc){a:Nat}(ha:a<=s.length)(f:Bool)(ns:List Str)(lg:List LE):gb s (.txt (u++t)::ps) a f ns lg=gb s (.txt u:: .txt t::ps) a f ns lg:=by
 show(match(if cut s a (a+(u++t).length)=u++t then some (a+(u++t).length) else none) with | none=>(iY f,lg) | some e=>gb s ps e f ns lg)=
  (match(if cut s a (a+u.length)=u then some (a+u.length) else none) with | none=>(iY f,lg) | some e=>match(if cut s e (e+t.length)=t then some (e+t.length) else none) with | none=>(iY f,lg) | some e=>gb s ps e f ns lg)
 have k:=GN s u t ha;have ul:(u++t).length=u.length+t.length:=by show(u.cps++t.cps).size=_;rw[cK];rfl
 by_cases c1:cut s a (a+u.length)=u
 .rw[if_pos c1]
  by_cases c2:cut s (a+u.length) (a+u.length+t.length)=t
  .rw[if_pos (k.mpr ⟨c1,c2⟩)]
   show gb s ps (a+(u++t).length) f ns lg=(match(if cut s (a+u.length) (a+u.length+t.length)=t then some (a+u.length+t.length) else none) with | none=>(iY f,lg) | some e=>gb s ps e f ns lg)
   rw[if_pos c2,ul,bQ]
  .rw[if_neg (λz=>c2 (k.mp z).2)]
   show(iY f,lg)=(match(if cut s (a+u.length) (a+u.length+t.length)=t then some (a+u.length+t.length) else none) with | none=>(iY f,lg) | some e=>gb s ps e f ns lg)
   rw[if_neg c2]
 .rw[if_neg c1,if_neg (λz=>c1 (k.mp z).1)]
theorem ux(s:Str):∀(ls:List Lf) (B':List Pc) {a:Nat} (ha:a<=s.length) (f:Bool) (ns:List Str) (lg:List LE),gb s (ls.foldl eX B').reverse a f ns lg=gb s (B'.reverse++ls.map kx) a f ns lg
 |[],B',a,ha,f,ns,lg=>by rw[List.map_nil,aQ];rfl
 |l::ls,B',a,ha,f,ns,lg=>by
  show gb s (ls.foldl eX (eX B' l)).reverse a f ns lg=_;rw[ux s ls (eX B' l) ha];show _=gb s (B'.reverse++(kx l::ls.map kx)) a f ns lg;have hl:kx l=(match iz l with | some t=>.txt t | none=>.lf l):=rfl;rw[hl];cases tx:iz l with
  |none=>rw[iu tx];simp only[bu,aw,List.cons_append,cP]
  |some t=>
   rw[gq tx];cases B' with
   |nil=>rfl
   |cons q r=>
    cases q with
    |lf l2=>show gb s ((Pc.txt t::Pc.lf l2::r).reverse++ls.map kx) a f ns lg=gb s ((Pc.lf l2::r).reverse++Pc.txt t::ls.map kx) a f ns lg;simp only[bu,aw,List.cons_append,cP]
    |txt u=>
     show gb s ((Pc.txt (u++t)::r).reverse++ls.map kx) a f ns lg=gb s ((Pc.txt u::r).reverse++Pc.txt t::ls.map kx) a f ns lg;simp only[bu,aw,List.cons_append,cP];rw[oK,oK s r.reverse];cases c:gb s r.reverse a f ns lg with
     |mk y l1=>
      cases y with
      |ok a1 n1 f1=>
       show gb s (.txt (u++t)::ls.map kx) a1 f1 n1 l1=gb s (.txt u:: .txt t::ls.map kx) a1 f1 n1 l1;exact BE s u t _ (uM s _ c ha) f1 n1 l1
      |over=>show(fP.over,l1)=(fP.over,l1);rfl
      |no=>show(fP.no,l1)=(fP.no,l1);rfl
theorem rI(s:Str):∀(ps:List dZ) {a:Nat} (ha:a<=s.length) (f:Bool) (ns:List Str) (lg:List LE),gb s (ps.map λp=>kx (.part p)) a f ns lg=d3 s ps a f ns lg
 |[],a,ha,f,ns,lg=>rfl
 |p::ps,a,ha,f,ns,lg=>by
  have gen:kx (.part p)= .lf (.part p)->gb s ((p::ps).map λp=>kx (.part p)) a f ns lg=d3 s (p::ps) a f ns lg:=λe=>by
   show gb s (kx (.part p)::ps.map λp=>kx (.part p)) a f ns lg=_;rw[e,qu];show jV (d3 s [p] a f ns lg) (λa ns f lg=>gb s (ps.map λp=>kx (.part p)) a f ns lg)=_;cases c:d3 s [p] a f ns lg with
   |mk y l1=>
    cases y with
    |ok a1 n1 f1=>exact rI s ps (lH s [p] a f ns lg c ha).1 f1 n1 l1
    |over=>rfl
    |no=>rfl
  have txt:∀(b:gC) (t:Str),AE b=true->xB b= .txt t->fB b=false->eh b=false->p= .mk .bare b->kx (.part p)= .txt t->gb s ((p::ps).map λp=>kx (.part p)) a f ns lg=d3 s (p::ps) a f ns lg:=λb t h1 h2 h3 h4 h5 h6=>by
   show gb s (kx (.part p)::ps.map λp=>kx (.part p)) a f ns lg=_;rw[h6,h5,i8,h4,mD ha h1,h2];show(match eE s a (.txt t) with | none=>(iY f,lg) | some e=>gb s (ps.map λp=>kx (.part p)) e f ns lg)=_;cases c:eE s a (.txt t) with
   |none=>cases f<;>rfl
   |some e=>
    rw[h3];exact rI s ps (kF ha c) f ns lg
  cases p with
  |cur=>exact gen rfl
  |mk m b=>
   cases m with
   |now=>exact gen rfl
   |later=>exact gen rfl
   |bare=>
    cases b with
    |ca=>exact txt .ca sA rfl rfl rfl rfl rfl rfl
    |cb=>exact txt .cb sB rfl rfl rfl rfl rfl rfl
    |_=>exact gen rfl
theorem Cu(s:Str)(ps:List dZ){a:Nat}(ha:a<=s.length)(f:Bool)(ns:List Str)(lg:List LE):gb s (eQ (ps.map Lf.part)) a f ns lg=d3 s ps a f ns lg:=by
 show gb s ((ps.map Lf.part).foldl eX []).reverse a f ns lg=_;rw[ux s _ _ ha,List.map_map];exact rI s ps ha f ns lg
theorem rV:∀(ls:List Lf) (B' base:List Pc),(∀u r,base≠ .txt u::r)->ls.foldl eX (B'++base)=ls.foldl eX B'++base
 |[],_,_,_=>rfl
 |l::ls,B',base,hb=>by
  have e:eX (B'++base) l=eX B' l++base:=by
   cases tx:iz l with
   |none=>rw[iu tx,iu tx];rfl
   |some t=>
    rw[gq tx,gq tx];cases B' with
    |nil=>
     cases base with
     |nil=>rfl
     |cons q r=>
      cases q with
      |txt u=>exact absurd rfl (hb u r)
      |lf l2=>rfl
    |cons q r=>cases q<;>rfl
  show ls.foldl eX (eX (B'++base) l)=ls.foldl eX (eX B' l)++base;rw[e,rV ls _ base hb]
theorem Bv(fl bl:List Lf):eQ (fl++ .suc::bl)=eQ fl++ .lf .suc::eQ bl:=by
 unfold eQ;rw[List.foldl_append];show(bl.foldl eX ([]++(.lf .suc::fl.foldl eX []))).reverse=_;rw[rV bl [] (.lf .suc::fl.foldl eX []) (λu r z=>by cases z)];simp
section
set_option backward.match.sparseCases false
/-! the machine along a row -/
def i6(s:Str):List fz->Nat->Bool->List Str->List Nat->List LE->Option (fP×List LE)
 |[],a,f,ns,_,lg=>some (.ok a ns f,lg)
 | .one q::r,a,f,ns,ms,lg=>match eE s a q with
  |none=>some (iY f,lg)
  |some e=>i6 s r e f ns ms lg
 | .fail::_,_,f,_,_,lg=>some (iY f,lg)
 | .abort::_,_,_,_,_,lg=>some (.over,lg)
 | .fence::r,a,_,ns,ms,lg=>i6 s r a true ns ms lg
 | .mark::r,a,f,ns,ms,lg=>i6 s r a f ns (a::ms) lg
 | .name::r,a,f,ns,m::ms,lg=>i6 s r a f (ns++[cut s m a]) ms lg
 | .set::r,a,f,ns,m::ms,lg=>i6 s r a f ns ms (lg++[.tx (cut s m a)])
 | .place::r,a,f,ns,ms,lg=>i6 s r a f ns ms (lg++[.at a])
 |_::_,_,_,_,_,_=>none
def Kv(x:fP×List LE)(g:Nat->List Str->Bool->List LE->Option (fP×List LE)):Option (fP×List LE):=match x with
 |(.ok a ns f,lg)=>g a ns f lg
 |(.over,lg)=>some (.over,lg)
 |(.no,lg)=>some (.no,lg)
theorem qc(s:Str)(b:gC)(r:List fz){a:Nat}(ha:a<=s.length)(f:Bool)(ns:List Str)(ms:List Nat)(lg:List LE):
  i6 s (i9 b::r) a f ns ms lg=match eh b with
   |true=>some (.over,lg)
   |false=>match eZ s a b with
    |none=>some (iY f,lg)
    |some e=>i6 s r e (fB b||f) ns ms lg:=by
 have one:AE b->i9 b= .one (xB b)->fB b=false->eh b=false->i6 s (i9 b::r) a f ns ms lg=match eh b with
   |true=>some (.over,lg)
   |false=>match eZ s a b with
    |none=>some (iY f,lg)
    |some e=>i6 s r e (fB b||f) ns ms lg:=λh1 h2 h3 h4=>by rw[h2,h4,h3,mD ha h1];rfl
 cases b with
 |fail=>rfl
 |abort=>rfl
 |fence=>rfl
 |_=>exact one rfl rfl rfl rfl
theorem B3(s:Str)(p:dZ)(r:List fz){a:Nat}(ha:a<=s.length)(f:Bool)(ns:List Str)(ms:List Nat)(lg:List LE):
  i6 s (eO (.lf (.part p))++r) a f ns ms lg=Kv (d3 s [p] a f ns lg) λa ns f lg=>i6 s r a f ns ms lg:=by
 cases p with
 |cur=>rfl
 |mk m b=>
  rw[i8];cases m with
  |bare=>
   show i6 s (i9 b::r) a f ns ms lg=_;rw[qc s b r ha];cases eh b with
   |true=>rfl
   |false=>
    cases eZ s a b with
    |none=>cases f<;>rfl
    |some e=>rfl
  |now=>
   show i6 s (i9 b:: .set::r) a f ns (a::ms) lg=_;rw[qc s b _ ha];cases eh b with
   |true=>rfl
   |false=>
    cases eZ s a b with
    |none=>cases f<;>rfl
    |some e=>rfl
  |later=>
   show i6 s (i9 b:: .name::r) a f ns (a::ms) lg=_;rw[qc s b _ ha];cases eh b with
   |true=>rfl
   |false=>
    cases eZ s a b with
    |none=>cases f<;>rfl
    |some e=>rfl
def AA:List Pc->Bool
 |[]=>true
 | .lf .suc::_=>false
 |_::l=>AA l
theorem sw(s:Str):∀(l:List Pc) {a:Nat} (ha:a<=s.length) (f:Bool) (ns:List Str) (ms:List Nat) (lg:List LE),AA l=true->i6 s (l.flatMap eO) a f ns ms lg=some (gb s l a f ns lg)
 |[],_,_,_,_,_,_,_=>rfl
 | .txt t::l,a,ha,f,ns,ms,lg,h=>by
  show(match eE s a (.txt t) with | none=>some (iY f,lg) | some e=>i6 s (l.flatMap eO) e f ns ms lg)=some (match eE s a (.txt t) with | none=>(iY f,lg) | some e=>gb s l e f ns lg);cases c:eE s a (.txt t) with
  |none=>rfl
  |some e=>exact sw s l (kF ha c) f ns ms lg h
 | .lf .suc::_,_,_,_,_,_,_,h=>by cases h
 | .lf (.part p)::l,a,ha,f,ns,ms,lg,h=>by
  show i6 s (eO (.lf (.part p))++l.flatMap eO) a f ns ms lg=some (jV (d3 s [p] a f ns lg) λa ns f lg=>gb s l a f ns lg);rw[B3 s p _ ha];cases c:d3 s [p] a f ns lg with
  |mk y l1=>
   cases y with
   |ok a1 n1 f1=>exact sw s l (lH s [p] a f ns lg c ha).1 f1 n1 ms l1 h
   |over=>show some (fP.over,l1)=some (fP.over,l1);rfl
   |no=>show some (fP.no,l1)=some (fP.no,l1);rfl
theorem jo(s:Str):∀(l:List fz) {a:Nat} {f:Bool} {ns:List Str} {ms:List Nat} {lg:List LE} {y:fP} {G':List LE},i6 s l a f ns ms lg=some (y,G')->lg<+:G'
 |[],_,_,_,_,_,_,_,h=>by cases h;exact aO _
 |o::r,a,f,ns,ms,lg,y,G',h=>by
  cases o with
  |one q=>
   have h:(match eE s a q with | none=>some (iY f,lg) | some e=>i6 s r e f ns ms lg)=some (y,G'):=h;cases c:eE s a q with
   |none=>rw[c] at h;cases h;exact aO _
   |some e=>rw[c] at h;exact jo s r h
  |fail=>cases h;exact aO _
  |abort=>cases h;exact aO _
  |fence=>exact jo s r h
  |mark=>exact jo s r h
  |name=>
   cases ms with
   |nil=>cases h
   |cons m ms=>exact jo s r h
  |set=>
   cases ms with
   |nil=>cases h
   |cons m ms=>exact(b9 _ _).trans (jo s r h)
  |place=>exact(b9 _ _).trans (jo s r h)
  |succeed=>cases h
  |done=>cases h
def AU(h0:Hs)(f:Bool):Hs:=match f with
 |true=>.top .fen
 |false=>h0
def HM(s:Str)(os:List fz)(lim n:Nat)(p:Option Wy)(w':Wy)(h:Hs)(lg:List LE)(st:Nat):Option (iF×List LE×Nat):=match h with
 | .emp=>match p with | none=>some (.failed w',lg,st) | some _=>none
 | .opq=>none
 | .top .fen=>match p with | none=>some (.over w',lg,st) | some _=>none
 | .top (.suc w2)=>fQ s os lim n (some (first p w')) w2 .opq lg st
def rQ(s:Str)(os:List fz)(lim:Nat)(h0:Hs)(nm1:List Str)(ln:Nat)(p:Option Wy)(pc st:Nat)(lg:List LE)(y:fP)(G':List LE)(e:Option (iF×List LE×Nat)):Prop:=
  (lim<st+ln/\∃w N3,e=some (.raised w,N3,lim+1)/\lg<+:N3/\N3<+:G')\/
  (match y with
   | .ok a' N0 f'=>∃n' ms',st+ln<=lim/\lim<n'+(st+ln)/\e=fQ s os lim n' p ⟨pc+ln,a',N0.reverse++nm1,ms'⟩ (AU h0 f') G' (st+ln)
   | .over=>p=none->∃w C',C'<=st+ln/\e=some (.over w,G',C')
   | .no=>∃k n' w',1<=k/\k<=ln/\st+k<=lim/\lim<n'+(st+k)/\e=HM s os lim n' p w' h0 G' (st+k))
theorem rQ.step{s:Str}{os:List fz}{lim ln:Nat}{h0:Hs}{nm1:List Str}{p:Option Wy}{pc st:Nat}{lg L' G':List LE}{y:fP}{e:Option (iF×List LE×Nat)}(hp:lg<+:L')(q:rQ s os lim h0 nm1 ln p (pc+1) (st+1) L' y G' e):rQ s os lim h0 nm1 (ln+1) p pc st lg y G' e:=by
 have a1:st+1+ln=st+(ln+1):=bO _ _;rcases q with⟨q1,w,N3,q2,q3,q4⟩ | q
 .exact .inl ⟨a1▸q1,w,N3,q2,hp.trans q3,q4⟩
 .refine .inr ?_
  cases y with
  |ok a' N0 f'=>
   obtain⟨n',ms',q1,q2,q3⟩:=q;exact⟨n',ms',a1▸q1,a1▸q2,by rw[q3,a1,bO]⟩
  |over=>
   intro hp;obtain⟨w,C',q1,q2⟩:=q hp;exact⟨w,C',a1▸q1,q2⟩
  |no=>
   obtain⟨k,n',w',q0,q1,q2,q3,q4⟩:=q;have a2:st+1+k=st+(k+1):=bO _ _;exact⟨k+1,n',w',aG q0,aC q1,a2▸q2,a2▸q3,by rw[q4,a2]⟩
def Mv(s:Str)(os:List fz)(lim:Nat)(h0:Hs)(nm1:List Str)(p:Option Wy)(y:fP)(G':List LE)(r:List fz):Prop:=∀(post:List fz) (n pc a:Nat) (f:Bool) (ns:List Str) (ms:List Nat) (lg:List LE) (st:Nat),
 (∀i,nth os (pc+i)=nth (r++post) i)->i6 s r a f ns ms lg=some (y,G')->st<=lim->lim<n+st->rQ s os lim h0 nm1 r.length p pc st lg y G' (fQ s os lim n p ⟨pc,a,ns.reverse++nm1,ms⟩ (AU h0 f) lg st)
theorem Dn(s:Str)(os:List fz)(lim:Nat)(h0:Hs)(nm1:List Str)(p:Option Wy)(y:fP)(G':List LE)(r:List fz):Mv s os lim h0 nm1 p y G' r:=by
 induction r with
 |nil=>
  intro post n pc a f ns ms lg st _ h hs hn;cases h;exact .inr ⟨n,ms,hs,hn,rfl⟩
 |cons o r ih=>
  intro post n pc a f ns ms lg st hos h hs hn;have ho:nth os pc=some o:=hos 0;cases n with
  |zero=>omega
  |succ n=>
   by_cases A':lim<st+1
   .refine .inl ⟨aH A' (bx (aC (aJ _)) _),first p ⟨pc,a,ns.reverse++nm1,ms⟩,lg,?_,aO _,jo s _ h⟩
    show(if lim<st+1 then some (iF.raised (first p ⟨pc,a,ns.reverse++nm1,ms⟩),lg,st+1) else _)=_;rw[if_pos A',Nat.le_antisymm hs (Nat.le_of_lt_succ A')]
   .have hos':∀i,nth os (pc+1+i)=nth (r++post) i:=λi=>(az (nth os) (bO pc i)).trans (hos (i+1))
    have hle:st+1<=lim:=bA A';have hn':lim<n+(st+1):=aH hn (aY (bO n st));generalize hw:(⟨pc,a,ns.reverse++nm1,ms⟩:Wy)=w;have ho:nth os w.pc=some o:=by rw[<-hw];exact ho
    have go:∀(a1:Nat) (f1:Bool) (ns1:List Str) (ms1:List Nat) (L':List LE),eM o≠gu->eM o≠eV->ke s o w (AU h0 f) lg=some (true,⟨pc+1,a1,ns1.reverse++nm1,ms1⟩,AU h0 f1,L')->lg<+:L'->
      i6 s r a1 f1 ns1 ms1 L'=some (y,G')->rQ s os lim h0 nm1 (r.length+1) p pc st lg y G' (fQ s os lim (n+1) p w (AU h0 f) lg st):=λa1 f1 ns1 ms1 L' k1 k2 hd hp hr=>by
     rw[jN ho k1 k2 A',hd];exact(ih post n (pc+1) a1 f1 ns1 ms1 L' (st+1) hos' hr hle hn').step hp
    have bad:eM o≠gu->eM o≠eV->ke s o w (AU h0 f) lg=some (false,w,AU h0 f,lg)->some (iY f,lg)=some (y,G')->rQ s os lim h0 nm1 (r.length+1) p pc st lg y G' (fQ s os lim (n+1) p w (AU h0 f) lg st):=λk1 k2 hd hy=>by
     have e:fQ s os lim (n+1) p w (AU h0 f) lg st=HM s os lim n p w (AU h0 f) lg (st+1):=by
      rw[jN ho k1 k2 A',hd];rfl
     rw[e];injection hy;refine .inr ?_;cases f with
     |true=>exact λhp=>⟨_,st+1,bx (aC (aJ _)) _,by rw[hp];rfl⟩
     |false=>exact⟨1,n,w,ao _,aC (aJ _),hle,hn',rfl⟩
    cases o with
    |one q=>
     have h:(match eE s a q with | none=>some (iY f,lg) | some e=>i6 s r e f ns ms lg)=some (y,G'):=h;cases c:eE s a q with
     |none=>
      rw[c] at h;exact bad (show mj≠gu by decide) (show mj≠eV by decide) (by rw[<-hw];show(match eE s a q with | some e=>_ | none=>_)=_;rw[c]) h
     |some e=>
      rw[c] at h;exact go e f ns ms lg (show mj≠gu by decide) (show mj≠eV by decide) (by rw[<-hw];show(match eE s a q with | some e=>_ | none=>_)=_;rw[c]) (aO _) h
    |fail=>exact bad () () rfl h
    |abort=>
     injection h;exact .inr λhp=>⟨w,st+1,bx (aC (aJ _)) _,by rw[nW ho A',hp]⟩
    |fence=>exact go a true ns ms lg () () (by rw[<-hw];rfl) (aO _) h
    |mark=>exact go a f ns (a::ms) lg () () (by rw[<-hw];rfl) (aO _) h
    |name=>
     cases ms with
     |nil=>injection h
     |cons m ms=>exact go a f (ns++[cut s m a]) ms lg () () (by rw[<-hw,List.reverse_append];rfl) (aO _) h
    |set=>
     cases ms with
     |nil=>injection h
     |cons m ms=>exact go a f ns ms _ () () (by rw[<-hw];rfl) (b9 _ _) h
    |place=>exact go a f ns ms _ () () (by rw[<-hw];rfl) (b9 _ _) h
    |succeed=>cases h
    |done=>cases h
theorem u9(s:Str)(os:List fz)(lim:Nat)(h0:Hs)(nm1:List Str)(ords post:List fz){n:Nat}{p:Option Wy}{pc a:Nat}{f:Bool}{ns:List Str}{ms:List Nat}{lg:List LE}{st:Nat}{y:fP}{G':List LE}
  (h1:∀i,nth os (pc+i)=nth (ords++post) i) (h2:i6 s ords a f ns ms lg=some (y,G')) (h3:st<=lim) (h4:lim<n+st):rQ s os lim h0 nm1 ords.length p pc st lg y G' (fQ s os lim n p ⟨pc,a,ns.reverse++nm1,ms⟩ (AU h0 f) lg st):=Dn s os lim h0 nm1 p y G' ords post n pc a f ns ms lg st h1 h2 h3 h4
end
/-! the pattern of the law,and the machine's match of it -/
def fh(fp:List dZ):Nd:=fp.foldr (λp n=>.cat (.lf (.part p)) n) (.lf .suc)
def fu(fp bp:List dZ):Nd:=bp.foldl (λn p=>.cat n (.lf (.part p))) (fh fp)
def dc(ps:List dZ):List fz:=(eQ (ps.map Lf.part)).flatMap eO
theorem sk:∀fp:List dZ,eI (fh fp)=fp.map Lf.part++[.suc]
 |[]=>rfl
 |p::fp=>by
  show[Lf.part p]++eI (fh fp)=_;rw[sk fp];rfl
theorem tu:∀(bp:List dZ) (n:Nd),eI (bp.foldl (λn p=>.cat n (.lf (.part p))) n)=eI n++bp.map Lf.part
 |[],n=>by simp
 |p::bp,n=>by
  show eI (bp.foldl (λn p=>.cat n (.lf (.part p))) (.cat n (.lf (.part p))))=_;rw[tu bp];show(eI n++[Lf.part p])++bp.map Lf.part=eI n++(Lf.part p::bp.map Lf.part);rw[aw];rfl
theorem pM(fp bp:List dZ):eA (fu fp bp)=dc fp++ .succeed::(dc bp++[.done]):=by
 unfold eA fu;rw[tu,sk,aw];show(eQ (fp.map Lf.part++ .suc::bp.map Lf.part)).flatMap eO++[fz.done]=_;rw[Bv,List.flatMap_append,List.flatMap_cons,aw];rfl
theorem tX:∀(ls:List Lf) (B':List Pc) {l:Lf},.lf l∈ls.foldl eX B'->l∈ls\/ .lf l∈B'
 |[],_,_,h=>.inr h
 |l1::ls,B',l,h=>by
  rcases tX ls (eX B' l1) h with m | m
  .exact .inl (.tail _ m)
  .cases tx:iz l1 with
   |none=>
    rw[iu tx] at m;rcases aD.mp m with z | m
    .cases z;exact .inl (.head _)
    .exact .inr m
   |some t=>
    rw[gq tx] at m;cases B' with
    |nil=>
     rcases aD.mp m with z | m
     .cases z
     .cases m
    |cons q r=>
     cases q with
     |txt u=>
      rcases aD.mp m with z | m
      .cases z
      .exact .inr (.tail _ m)
     |lf l2=>
      rcases aD.mp m with z | m
      .cases z
      .exact .inr m
theorem sH:∀{l:List Pc},Pc.lf .suc∉l->AA l=true
 |[],_=>rfl
 | .txt _::l,h=>sH (l:=l) λm=>h (.tail _ m)
 | .lf .suc::l,h=>absurd (.head _) h
 | .lf (.part p)::l,h=>sH (l:=l) λm=>h (.tail _ m)
theorem BF(ps:List dZ):AA (eQ (ps.map Lf.part))=true:=sH λm=>by
 rcases tX _ [] (List.mem_reverse.mp m) with m | m
 .obtain⟨p,_,e⟩:=List.mem_map.mp m
  cases e
 .cases m
theorem zq(s:Str)(ps:List dZ){a:Nat}(ha:a<=s.length)(f:Bool)(ns:List Str)(ms:List Nat)(lg:List LE):i6 s (dc ps) a f ns ms lg=some (d3 s ps a f ns lg):=by
 unfold dc;rw[sw s _ ha f ns ms lg (BF ps),Cu s ps ha]
theorem wz(s:Str)(l0:List LE):∀(ps:List dZ) (a:Nat) (f:Bool) (ns:List Str) (lg:List LE),d3 s ps a f ns (l0++lg)=((d3 s ps a f ns lg).1,l0++(d3 s ps a f ns lg).2):=by
 refine oF (P:=λps a f ns lg x=>d3 s ps a f ns (l0++lg)=(x.1,l0++x.2)) (λI I I I=>rfl) (λps a f ns lg x h=>?_) (λm b ps a f ns lg e=>vW s m b ps a f ns _ e) (λm b ps a f ns lg e k=>u6 s m b ps a f ns _ e k) (λm b ps a f ns lg e x h k z=>(mB s m b ps a f ns _ h k).trans ?_)
 .rw[<-h,<-aw];rfl
 .rw[<-z]
  cases m with
  |now=>exact az (d3 s ps e _ ns) (aw ..)
  |_=>rfl
theorem jT{α:Type}(l r:List α)(i:Nat):nth (l++r) (l.length+i)=nth r i:=jP l r i
nonrec theorem rounds{s:Str}{os fo bo:List fz}{lim:Nat}{nm:List Str}{ms:List Nat}{a:Nat}{rs:List LE}(hos:os=fo++ .succeed::(bo++[.done]))(hb:∀lg,i6 s bo a false [] ms lg=some (.no,lg++rs))(k:Nat):
  ∀{n st:Nat} {p:Option Wy} {h:Hs} {lg:List LE},lim - st<=k->st<=lim->lim<n+st->
   ∃w N3 m,fQ s os lim n p ⟨fo.length,a,nm,ms⟩ h lg st=some (.raised w,N3,lim+1)/\lg<+:N3/\N3<+:lg++(List.replicate m rs).flatten/\m<=lim - st:=by
 induction k with
 |zero=>
  intro n st p h lg hk hs hn;cases n with
  |zero=>omega
  |succ n=>
   refine⟨first p ⟨fo.length,a,nm,ms⟩,lg,0,?_,aO _,by simp,aJ _⟩;show(if lim<st+1 then some (iF.raised (first p ⟨fo.length,a,nm,ms⟩),lg,st+1) else _)=_;have A':lim<st+1:=by omega
   rw[if_pos A',show st=lim from by omega]
 |succ k ih=>
  intro n st p h lg hk hs hn;cases n with
  |zero=>omega
  |succ n=>
   by_cases A':lim<st+1
   .refine⟨first p ⟨fo.length,a,nm,ms⟩,lg,0,?_,aO _,by simp,aJ _⟩
    show(if lim<st+1 then some (iF.raised (first p ⟨fo.length,a,nm,ms⟩),lg,st+1) else _)=_;rw[if_pos A',show st=lim from by omega]
   .have ho:nth os fo.length=some .succeed:=by
     have:=jT fo (.succeed::(bo++[fz.done])) 0;rw[hos];exact this
    have e:fQ s os lim (n+1) p ⟨fo.length,a,nm,ms⟩ h lg st=fQ s os lim n p ⟨fo.length+1,a,nm,ms⟩ (.top (.suc ⟨fo.length,a,nm,ms⟩)) lg (st+1):=by
     rw[jN (w:=⟨fo.length,a,nm,ms⟩) ho () () A'];rfl
    rw[e];have hseg:∀i,nth os (fo.length+1+i)=nth (bo++[fz.done]) i:=λi=>by
     have:=jT fo (.succeed::(bo++[fz.done])) (i+1);rw[hos,show fo.length+1+i=fo.length+(i+1) from by omega,this];rfl
    rcases u9 s os lim (.top (.suc ⟨fo.length,a,nm,ms⟩)) nm bo [.done] (n:=n) (p:=p) (f:=false) (ns:=[]) (ms:=ms) (lg:=lg) (st:=st+1) hseg (hb lg) (by omega) (by omega) with⟨q1,w,N3,q2,q3,q4⟩ | q
    .refine⟨w,N3,1,q2,q3,by simpa using q4,by omega⟩
    .obtain⟨j,n',w',q0,q1,q2,q3,q4⟩:=q
     have q4:fQ s os lim n p ⟨fo.length+1,a,nm,ms⟩ (.top (.suc ⟨fo.length,a,nm,ms⟩)) lg (st+1)=fQ s os lim n' (some (first p w')) ⟨fo.length,a,nm,ms⟩ .opq (lg++rs) (st+1+j):=q4;rw[q4];obtain⟨w,N3,m,z1,z2,z3,z4⟩:=ih (n:=n') (st:=st+1+j) (p:=some (first p w')) (h:=.opq) (lg:=lg++rs) (by omega) (by omega) q3;refine⟨w,N3,m+1,z1,(b9 _ _).trans z2,?_,by omega⟩;rw[bz,bP,<-aw];exact z3
def nE(lim:Nat)(y:ii)(G':List LE)(e:Option (mQ×List LE×Nat)):Prop:=match y with
 | .none _=>∃k C',e=some (.nope k,G',C')
 | .met b a ns=>∃C',e=some (.met b a ns,G',C')
 | .round rs=>∃N3 m,e=some (.raised,N3,lim+1)/\G'++rs<+:N3/\N3<+:G'++(List.replicate m rs).flatten/\m<=lim
nonrec theorem IA{s:Str}{fp bp:List dZ}{lim:Nat}(n:Nat):∀{j:Nat} {lg:List LE} {st:Nat},j+n<=s.length+1->st+n*((dc fp).length+(dc bp).length+2)<=lim->
  nE lim (l8 s fp bp n j lg).1 (l8 s fp bp n j lg).2 (Cz s (eA (fu fp bp)) lim n j lg st):=by
 induction n with
 |zero=>intro j lg st _ _;exact⟨0,st,rfl⟩
 |succ n ih=>
  intro j lg st hj hb;have hos:=pM fp bp;generalize eA (fu fp bp)=os at hos;have hja:j<=s.length:=by omega
  have h5:=o47 hb;have h4:=cJ (bv h5);have h3:=bv h4;have h2:=cJ h3;have h1:=bv h2;rw[wN,kU];have hseg0:∀i,nth os (0+i)=nth (dc fp++ .succeed::(dc bp++[fz.done])) i:=λi=>by rw[hos,bS]
  have q:=u9 s os lim .emp [] (dc fp) (.succeed::(dc bp++[fz.done])) (n:=lim+2) (p:=none) (pc:=0) (a:=j) (f:=false) (ns:=[]) (ms:=[]) (lg:=lg) (st:=st) hseg0 (zq s fp hja false [] [] lg) (by omega) (by omega);cases c1:d3 s fp j false [] lg with
  |mk y1 L'=>
   rw[c1] at q;rcases q with⟨q1,_⟩ | q
   .omega
   cases y1 with
   |over=>
    obtain⟨w,C',_,q2⟩:=q rfl;have q2:fQ s os lim (lim+2) none ⟨0,j,[],[]⟩ .emp lg st=some (.over w,L',C'):=q2;rw[q2];exact⟨1,C',rfl⟩
   |no=>
    obtain⟨k,n',w',_,k1,k2,k3,q2⟩:=q;have q2:fQ s os lim (lim+2) none ⟨0,j,[],[]⟩ .emp lg st=some (.failed w',L',st+k):=q2;rw[q2];have ih:=ih (j:=j+1) (lg:=L') (st:=st+k) (by omega) (by omega);have hc:eA (fu fp bp)=os:=by rw[pM,hos]
    rw[hc] at ih;exact ih
   |ok a ns f=>
    obtain⟨n',ms',k1,k2,q2⟩:=q;have ha:a<=s.length:=(lH s fp j false [] lg c1 hja).1;have q2:fQ s os lim (lim+2) none ⟨0,j,[],[]⟩ .emp lg st=fQ s os lim n' none ⟨0+(dc fp).length,a,ns.reverse++[],ms'⟩ (AU .emp f) L' (st+(dc fp).length):=q2;rw[bS,aQ] at q2;rw[q2];have ho:nth os (dc fp).length=some .succeed:=by
     have:=jT (dc fp) (.succeed::(dc bp++[fz.done])) 0;rw[hos];exact this
    cases n' with
    |zero=>omega
    |succ n'=>
     have hst1:¬lim<st+(dc fp).length+1:=by omega
     have e:fQ s os lim (n'+1) none ⟨(dc fp).length,a,ns.reverse,ms'⟩ (AU .emp f) L' (st+(dc fp).length)=fQ s os lim n' none ⟨(dc fp).length+1,a,ns.reverse,ms'⟩ (.top (.suc ⟨(dc fp).length,a,ns.reverse,ms'⟩)) L' (st+(dc fp).length+1):=by
      rw[jN (w:=⟨(dc fp).length,a,ns.reverse,ms'⟩) ho () () hst1];rfl
     rw[e];have hseg:∀i,nth os ((dc fp).length+1+i)=nth (dc bp++[fz.done]) i:=λi=>by
      have:=jT (dc fp) (.succeed::(dc bp++[fz.done])) (i+1);rw[hos,show(dc fp).length+1+i=(dc fp).length+(i+1) from by omega,this];rfl
     have hlog:∀l:List LE,i6 s (dc bp) a false [] ms' l=some ((d3 s bp a false [] []).1,l++(d3 s bp a false [] []).2):=λl=>by
      rw[zq s bp ha];have:=wz s l bp a false [] [];rw[aQ] at this;rw[this]
     have q:=u9 s os lim (.top (.suc ⟨(dc fp).length,a,ns.reverse,ms'⟩)) ns.reverse (dc bp) [.done] (n:=n') (p:=none) (f:=false) (ns:=[]) (ms:=ms') (lg:=L') (st:=st+(dc fp).length+1) hseg (hlog L') (by omega) (by omega);show nE lim (match d3 s bp a false [] [] with
      |(.no,rs)=>(ii.round rs,L')
      |(.over,rs)=>(.none 2,L'++rs)
      |(.ok e ms _,rs)=>(.met j e (ns++ms),L'++rs)).1 (match d3 s bp a false [] [] with
      |(.no,rs)=>(ii.round rs,L')
      |(.over,rs)=>(.none 2,L'++rs)
      |(.ok e ms _,rs)=>(.met j e (ns++ms),L'++rs)).2 _
     cases c2:d3 s bp a false [] [] with
     |mk y2 rs=>
      rw[c2] at q hlog;rcases q with⟨q1,_⟩ | q
      .have q1:lim<st+(dc fp).length+1+(dc bp).length:=q1
       omega
      cases y2 with
      |over=>
       obtain⟨w,C',_,q3⟩:=q rfl;have q3:fQ s os lim n' none ⟨(dc fp).length+1,a,ns.reverse,ms'⟩ (.top (.suc ⟨(dc fp).length,a,ns.reverse,ms'⟩)) L' (st+(dc fp).length+1)=some (.over w,L'++rs,C'):=q3;rw[q3];exact⟨1,C',rfl⟩
      |ok e ms g=>
       obtain⟨n2,ms2,k3,k4,q3⟩:=q;have q3:fQ s os lim n' none ⟨(dc fp).length+1,a,ns.reverse,ms'⟩ (.top (.suc ⟨(dc fp).length,a,ns.reverse,ms'⟩)) L' (st+(dc fp).length+1)=fQ s os lim n2 none ⟨(dc fp).length+1+(dc bp).length,e,ms.reverse++ns.reverse,ms2⟩ (AU (.top (.suc ⟨(dc fp).length,a,ns.reverse,ms'⟩)) g) (L'++rs) (st+(dc fp).length+1+(dc bp).length):=q3;rw[q3];have hd:nth os ((dc fp).length+1+(dc bp).length)=some .done:=by
        rw[hseg];have:=jT (dc bp) [fz.done] 0;exact this
       cases n2 with
       |zero=>omega
       |succ n2=>
        have hst2:¬lim<st+(dc fp).length+1+(dc bp).length+1:=cF.mpr (bv h5);rw[qr (w:=⟨(dc fp).length+1+(dc bp).length,e,ms.reverse++ns.reverse,ms2⟩) hd hst2];refine⟨st+(dc fp).length+1+(dc bp).length+1,?_⟩;show some (mQ.met j e (ms.reverse++ns.reverse).reverse,_,_)=_;rw[List.reverse_append,List.reverse_reverse,List.reverse_reverse]
      |no=>
       obtain⟨k,n2,w',k0,k3,k4,k5,q3⟩:=q;have q3:fQ s os lim n' none ⟨(dc fp).length+1,a,ns.reverse,ms'⟩ (.top (.suc ⟨(dc fp).length,a,ns.reverse,ms'⟩)) L' (st+(dc fp).length+1)=fQ s os lim n2 (some (first none w')) ⟨(dc fp).length,a,ns.reverse,ms'⟩ .opq (L'++rs) (st+(dc fp).length+1+k):=q3;rw[q3];obtain⟨w,N3,m,z1,z2,z3,z4⟩:=rounds hos (nm:=ns.reverse) (ms:=ms') (a:=a) hlog lim (n:=n2) (st:=st+(dc fp).length+1+k) (p:=some (first none w')) (h:=.opq) (lg:=L'++rs) (by omega) k4 k5;rw[z1];refine⟨N3,m+1,rfl,z2,?_,by omega⟩;rw[bz,bP,<-aw];exact z3
/-! the plain trial along a row -/
def wy:dZ->Nat
 | .mk .now _=>3
 | .mk .later _=>3
 |_=>1
def BZ:List dZ->Nat
 |[]=>0
 |p::ps=>wy p+BZ ps
def lW(p:dZ):jL:=.nd (.lf (.part p))
theorem kH(s:Str)(ps:List dZ){a:Nat}(ha:a<=s.length)(f:Bool)(ns:List Str)(lg:List LE):lg<+:(d3 s ps a f ns lg).2:=jo s _ (zq s ps ha f ns [] lg)
def tC(s:Str)(lim:Nat)(u':List jL)(p0:eJ)(ln st:Nat)(lg:List LE)(x:fP×List LE)(e:Option (Al×eJ×List LE×Nat)):Prop:=
 (lim<st+ln/\∃i r p' N3,e=some (.raised i r,p',N3,lim+1)/\lg<+:N3/\N3<+:x.2)\/
 (match x.1 with
  | .ok a' N0 f'=>∃n' k,(f'=true↔0<k)/\st+ln<=lim/\lim<n'+(st+ln)/\e=ko s lim n' u' a' N0 (List.replicate k none++p0) x.2 (st+ln)
  | .over=>∃C',C'<=st+ln/\((∃p',e=some (.lost,p',x.2,C'))\/∃i r p',e=some (.brk i r,none::p',x.2,C'))
  | .no=>∃k i r,1<=k/\k<=ln/\st+k<=lim/\e=some (.brk i r,p0,x.2,st+k))
section
variable{s:Str} {lim ln st:Nat} {u':List jL} {p0:eJ} {lg:List LE} {x:fP×List LE}
theorem tC.shift{d:Nat}{L':List LE}{e:Option (Al×eJ×List LE×Nat)}(h:tC s lim u' p0 ln (st+d) L' x e)(hp:lg<+:L'):tC s lim u' p0 (d+ln) st lg x e:=by
 rcases h with⟨q1,i,r,p',N3,q2,q3,q4⟩ | q
 .exact .inl ⟨by omega,i,r,p',N3,q2,hp.trans q3,q4⟩
 .refine .inr ?_
  obtain⟨y,G'⟩:=x;cases y with
  |ok a' N0 f'=>
   obtain⟨n',k,q0,q1,q2,q3⟩:=q;refine⟨n',k,q0,by omega,by omega,?_⟩;rw[q3,bQ]
  |over=>
   obtain⟨C',q1,q2⟩:=q;exact⟨C',by omega,q2⟩
  |no=>
   obtain⟨k,i,r,q0,q1,q2,q3⟩:=q;refine⟨d+k,i,r,by omega,by omega,by omega,?_⟩;rw[q3,bQ]
theorem tC.step{n a:Nat}{i:jL}{r:List jL}{ns:List Str}{p:eJ}(hs:st<=lim)(hn:lim<n+st)(hx:lg<+:x.2)
  (go:∀m,lim<m+(st+1)->st+1<=lim->tC s lim u' p0 (1+ln) st lg x (match adv s i r a ns p lg with
   |(.no,p,lg)=>some (.brk i r,p,lg,st+1)
   |(.lost,p,lg)=>some (.lost,p,lg,st+1)
   |(.way t,p,lg)=>ko s lim m t.ch t.at_ t.ns p lg (st+1))):tC s lim u' p0 (1+ln) st lg x (ko s lim n (i::r) a ns p lg st):=by
 cases n with
 |zero=>omega
 |succ n=>
  rw[jm]
  by_cases A':lim<st+1
  .rw[if_pos A']
   exact .inl ⟨by omega,i,r,p,lg,by rw[show st=lim from by omega],aO _,hx⟩
  .rw[if_neg A']
   exact go n (by omega) (by omega)
theorem tC.bind{rest1:List jL}{l1 l2:Nat}{g:Nat->List Str->Bool->List LE->fP×List LE}{e:Option (Al×eJ×List LE×Nat)}(h:tC s lim rest1 p0 l1 st lg x e)(hx:lg<+:x.2)(hg:∀a ns f l,x=(.ok a ns f,l)->l<+:(g a ns f l).2)
  (k:∀a ns f l,x=(.ok a ns f,l)->∀n' j,(f=true↔0<j)->st+l1<=lim->lim<n'+(st+l1)->tC s lim u' p0 l2 (st+l1) l (g a ns f l) (ko s lim n' rest1 a ns (List.replicate j none++p0) l (st+l1))):
  tC s lim u' p0 (l1+l2) st lg (jV x g) e:=by
 obtain⟨y,G'⟩:=x;rcases h with⟨q1,i,r,p',N3,q2,q3,q4⟩ | q
 .refine .inl ⟨by omega,i,r,p',N3,q2,q3,?_⟩
  cases y with
  |ok a ns f=>exact q4.trans (hg a ns f G' rfl)
  |over=>exact q4
  |no=>exact q4
 .cases y with
  |ok a' N0 f'=>
   obtain⟨n',j,q0,q1,q2,q3⟩:=q;rw[q3];exact(k a' N0 f' G' rfl n' j q0 q1 q2).shift hx
  |over=>
   obtain⟨C',q1,q2⟩:=q;exact .inr ⟨C',by omega,q2⟩
  |no=>
   obtain⟨k,i,r,q0,q1,q2,q3⟩:=q;exact .inr ⟨k,i,r,q0,by omega,q2,q3⟩
theorem tC.bare{R:List jL}{n a j:Nat}{b:gC}{f:Bool}{ns:List Str}(hj:f=true↔0<j)(ha:a<=s.length)(hs:st<=lim)(hn:lim<n+st)(hx:lg<+:x.2)
  (h1:eh b->x=(.over,lg)) (h2:eh b=false->eZ s a b=none->x=(iY f,lg))
  (h3:eh b=false->∀e,eZ s a b=some e->∀m k,((fB b||f)=true↔0<k)->st+1<=lim->lim<m+(st+1)->tC s lim u' p0 ln (st+1) lg x (ko s lim m R e ns (List.replicate k none++p0) lg (st+1))):
  tC s lim u' p0 (1+ln) st lg x (ko s lim n (lW (.mk .bare b)::R) a ns (List.replicate j none++p0) lg st):=by
 refine .step hs hn hx λm hm A'=>?_;show tC s lim u' p0 (1+ln) st lg x (match oz s b (lW (.mk .bare b)) R a ns (List.replicate j none++p0) lg with
   |(.no,p,lg)=>some (.brk (lW (.mk .bare b)) R,p,lg,st+1)
   |(.lost,p,lg)=>some (.lost,p,lg,st+1)
   |(.way t,p,lg)=>ko s lim m t.ch t.at_ t.ns p lg (st+1))
 have fails:x=(iY f,lg)->tC s lim u' p0 (1+ln) st lg x (some (.brk (lW (.mk .bare b)) R,List.replicate j none++p0,lg,st+1)):=λe=>by
  rw[e];cases f with
  |true=>
   have:0<j:=hj.mp rfl;cases j with
   |zero=>omega
   |succ j=>exact .inr ⟨st+1,by omega,.inr ⟨_,_,List.replicate j none++p0,rfl⟩⟩
  |false=>
   have:j=0:=by
    cases j with
    |zero=>rfl
    |succ j=>exact absurd (hj.mpr (Nat.succ_pos j)) ()
   subst this;exact .inr ⟨1,_,_,ao _,by omega,A',rfl⟩
 have one:AE b->fB b=false->eh b=false->oz s b (lW (.mk .bare b)) R a ns (List.replicate j none++p0) lg=(match eE s a (xB b) with
   |some e=>(.way ⟨R,e,ns⟩,List.replicate j none++p0,lg)
   |none=>(.no,List.replicate j none++p0,lg))->tC s lim u' p0 (1+ln) st lg x (match oz s b (lW (.mk .bare b)) R a ns (List.replicate j none++p0) lg with
   |(.no,p,lg)=>some (.brk (lW (.mk .bare b)) R,p,lg,st+1)
   |(.lost,p,lg)=>some (.lost,p,lg,st+1)
   |(.way t,p,lg)=>ko s lim m t.ch t.at_ t.ns p lg (st+1)):=λk1 k2 k3 e=>by
  rw[e];have be:=mD ha k1;cases c:eE s a (xB b) with
  |none=>exact fails (h2 k3 (by rw[be,c]))
  |some e'=>exact(h3 k3 e' (by rw[be,c]) m j (by rw[k2,Bool.false_or];exact hj) A' hm).shift (aO _)
 cases b with
 |fail=>exact fails (h2 rfl rfl)
 |abort=>rw[h1 rfl];exact .inr ⟨st+1,by omega,.inl ⟨_,rfl⟩⟩
 |fence=>exact(h3 rfl a rfl m (j+1) ⟨λI=>Nat.succ_pos _,λI=>rfl⟩ A' hm).shift (aO _)
 |ca=>exact one rfl rfl rfl rfl
 |cb=>exact one rfl rfl rfl rfl
 |any=>exact one rfl rfl rfl rfl
 |len1=>exact one rfl rfl rfl rfl
 |len0=>exact one rfl rfl rfl rfl
end
nonrec theorem xd{n st a j:Nat}{f:Bool}{ns:List Str}{lg:List LE}(s:Str)(lim:Nat)(u':List jL)(p0:eJ)(q:dZ)(hj:f=true↔0<j)(ha:a<=s.length)(hs:st<=lim)(hn:lim<n+st):tC s lim u' p0 (wy q) st lg (d3 s [q] a f ns lg) (ko s lim n (lW q::u') a ns (List.replicate j none++p0) lg st):=by
 have hx:=kH s [q] ha f ns lg;cases q with
 |cur=>exact .step (ln:=0) hs hn hx λm hm A'=>.inr ⟨m,j,hj,A',hm,rfl⟩
 |mk mo b=>
  have e0:=i8 s mo b [] a f ns lg;have k1:eh b->d3 s [.mk mo b] a f ns lg=(.over,lg):=λz=>by rw[e0,z]
  have k2:eh b=false->eZ s a b=none->d3 s [.mk mo b] a f ns lg=(iY f,lg):=λz c=>by rw[e0,z,c];rfl
  cases mo with
  |bare=>
   refine .bare (ln:=0) hj ha hs hn hx k1 k2 λz e c m k hk A' hm=>?_;rw[e0,z,c];exact .inr ⟨m,k,hk,A',hm,rfl⟩
  |now=>
   refine .step (ln:=2) hs hn hx λm hm A'=>?_;refine tC.shift (d:=1) (ln:=2) (L':=lg) ?_ (aO _);refine .bare (R:=.endN a::u') (ln:=1) hj ha A' hm hx k1 k2 λz e c m k hk A' hm=>?_;refine .step (ln:=0) A' hm hx λm hm A'=>?_;rw[e0,z,c];exact .inr ⟨m,k,hk,A',hm,rfl⟩
  |later=>
   refine .step (ln:=2) hs hn hx λm hm A'=>?_;refine tC.shift (d:=1) (ln:=2) (L':=lg) ?_ (aO _);refine .bare (R:=.endL a::u') (ln:=1) hj ha A' hm hx k1 k2 λz e c m k hk A' hm=>?_;refine .step (ln:=0) A' hm hx λm hm A'=>?_;rw[e0,z,c];exact .inr ⟨m,k,hk,A',hm,rfl⟩
theorem mc{s:Str}{ps:List dZ}{a:Nat}{f:Bool}{ns:List Str}{lg:List LE}{e:Nat}{ms:List Str}{g:Bool}{G':List LE}(h:d3 s ps a f ns lg=(.ok e ms g,G'))(ha:a<=s.length):e<=s.length:=(lH s ps a f ns lg h ha).1
theorem vO(s:Str)(lim:Nat)(u':List jL)(p0:eJ):∀(ps:List dZ) {n st a j:Nat} {f:Bool} {ns:List Str} {lg:List LE},(f=true↔0<j)->a<=s.length->st<=lim->lim<n+st->
  tC s lim u' p0 (BZ ps) st lg (d3 s ps a f ns lg) (ko s lim n (ps.map lW++u') a ns (List.replicate j none++p0) lg st)
 |[],n,st,a,j,f,ns,lg,hj,ha,hs,hn=>.inr ⟨n,j,hj,hs,hn,rfl⟩
 |q::ps,n,st,a,j,f,ns,lg,hj,ha,hs,hn=>by
  rw[qu];exact tC.bind (rest1:=ps.map lW++u') (xd s lim (ps.map lW++u') p0 q hj ha hs hn) (kH s [q] ha f ns lg) (λa1 n1 f1 l e=>kH s ps (mc e ha) f1 n1 l)
   (λa1 n1 f1 l e n' j' hj' h1 h2=>vO s lim u' p0 ps hj' (mc e ha) h1 h2)
def ow:List dZ->Nat
 |[]=>0
 |p::ps=>(1+wy p)+ow ps
theorem uz(s:Str)(lim:Nat)(R:List jL)(p0:eJ):∀(fp:List dZ) {n st a j:Nat} {f:Bool} {ns:List Str} {lg:List LE},(f=true↔0<j)->a<=s.length->st<=lim->lim<n+st->
  tC s lim (.nd (.lf .suc)::R) p0 (ow fp) st lg (d3 s fp a f ns lg) (ko s lim n (.nd (fh fp)::R) a ns (List.replicate j none++p0) lg st)
 |[],n,st,a,j,f,ns,lg,hj,ha,hs,hn=>.inr ⟨n,j,hj,hs,hn,rfl⟩
 |q::fp,n,st,a,j,f,ns,lg,hj,ha,hs,hn=>by
  rw[qu];refine tC.bind (l1:=1+wy q) (rest1:=.nd (fh fp)::R) (x:=d3 s [q] a f ns lg) (.step (ln:=wy q) hs hn (kH s [q] ha f ns lg) λm hm A'=>?_) (kH s [q] ha f ns lg) (λa1 n1 f1 l e=>kH s fp (mc e ha) f1 n1 l)
   (λa1 n1 f1 l e n' j' hj' h1 h2=>uz s lim R p0 fp hj' (mc e ha) h1 h2)
  exact(xd s lim (.nd (fh fp)::R) p0 q hj ha A' hm).shift (aO _)
theorem w6(s:Str)(lim:Nat):∀(bp:List dZ) (nd:Nd) (r:List jL) {n st a:Nat} {ns:List Str} {p:eJ} {lg:List LE},st+bp.length<=lim->lim<n+st->
  ∃n',lim<n'+(st+bp.length)/\ko s lim n (.nd (bp.foldl (λn p=>.cat n (.lf (.part p))) nd)::r) a ns p lg st=ko s lim n' (.nd nd::(bp.map lW++r)) a ns p lg (st+bp.length)
 |[],nd,r,n,st,a,ns,p,lg,hs,hn=>⟨n,hn,rfl⟩
 |q::bp,nd,r,n,st,a,ns,p,lg,hs,hn=>by
  have hlen:(q::bp).length=bp.length+1:=rfl;rw[hlen] at hs;obtain⟨n',h1,h2⟩:=w6 s lim bp (.cat nd (.lf (.part q))) r (n:=n) (st:=st) (a:=a) (ns:=ns) (p:=p) (lg:=lg) (by omega) hn;cases n' with
  |zero=>omega
  |succ n'=>
   refine⟨n',by rw[hlen];omega,?_⟩;show ko s lim n (.nd (bp.foldl (λn p=>.cat n (.lf (.part p))) (.cat nd (.lf (.part q))))::r) a ns p lg st=_;rw[h2,jm,if_neg (by omega),hlen,<-bQ];rfl
nonrec theorem F0{s:Str}{lim:Nat}{bp:List dZ}{a:Nat}{ns:List Str}{p1:eJ}{rs:List LE}(ha:a<=s.length)(hb:∀lg,d3 s bp a false ns lg=(.no,lg++rs))(k:Nat):
  ∀{n st:Nat} {lg:List LE},lim - st<=k->st<=lim->lim<n+st->
   ∃p' N3 m,uA s lim n (some ⟨.nd (.lf .suc)::bp.map lW,a,ns⟩::p1) lg st=some (.raised,p',N3,lim+1)/\lg<+:N3/\N3<+:lg++(List.replicate m rs).flatten/\m<=lim - st:=by
 induction k with
 |zero=>
  intro n st lg hk hs hn;cases n with
  |zero=>omega
  |succ n=>
   rw[ji];have e:ko s lim (lim+2) (.nd (.lf .suc)::bp.map lW) a ns p1 lg st=some (.raised (.nd (.lf .suc)) (bp.map lW),p1,lg,st+1):=by rw[jm,if_pos (by omega)]
   have A':lim<st+1:=by omega
   rw[e];exact⟨p1,lg,0,by rw[show st=lim from by omega],aO _,by simp,aJ _⟩
 |succ k ih=>
  intro n st lg hk hs hn;cases n with
  |zero=>omega
  |succ n=>
   rw[ji]
   by_cases A':lim<st+1
   .have e:ko s lim (lim+2) (.nd (.lf .suc)::bp.map lW) a ns p1 lg st=some (.raised (.nd (.lf .suc)) (bp.map lW),p1,lg,st+1):=by rw[jm,if_pos A']
    rw[e];exact⟨p1,lg,0,by rw[show st=lim from by omega],aO _,by simp,aJ _⟩
   .have e:ko s lim (lim+2) (.nd (.lf .suc)::bp.map lW) a ns p1 lg st=ko s lim (lim+1) (bp.map lW) a ns (some ⟨.nd (.lf .suc)::bp.map lW,a,ns⟩::p1) lg (st+1):=by rw[jm,if_neg A'];rfl
    have e:ko s lim (lim+2) (Tw.ch ⟨.nd (.lf .suc)::bp.map lW,a,ns⟩) (Tw.at_ ⟨.nd (.lf .suc)::bp.map lW,a,ns⟩) (Tw.ns ⟨.nd (.lf .suc)::bp.map lW,a,ns⟩) p1 lg st=ko s lim (lim+1) (bp.map lW++[]) a ns (List.replicate 0 none++(some ⟨.nd (.lf .suc)::bp.map lW,a,ns⟩::p1)) lg (st+1):=by rw[aQ];exact e
    rw[e];have q:=vO s lim [] (some ⟨.nd (.lf .suc)::bp.map lW,a,ns⟩::p1) bp (n:=lim+1) (st:=st+1) (a:=a) (j:=0) (f:=false) (ns:=ns) (lg:=lg) ⟨(λz=>by cases z),λz=>absurd z (bD 0)⟩ ha (by omega) (by omega);rw[hb lg] at q;rcases q with⟨q1,i,r,p',N3,q2,q3,q4⟩ | ⟨j,i,r,q0,q1,q2,q3⟩
    .rw[q2]
     exact⟨p',N3,1,rfl,q3,by simpa using q4,by omega⟩
    .rw[q3]
     obtain⟨p',N3,m,z1,z2,z3,z4⟩:=ih (n:=n) (st:=st+1+j) (lg:=lg++rs) (by omega) (by omega) (by omega);refine⟨p',N3,m+1,z1,(b9 _ _).trans z2,?_,by omega⟩;rw[bz,bP,<-aw];exact z3
def JD(n0:List Str):fP->fP
 | .ok a ns f=>.ok a (n0++ns) f
 |r=>r
theorem GZ(s:Str)(n0:List Str):∀(ps:List dZ) (a:Nat) (f:Bool) (ns:List Str) (lg:List LE),d3 s ps a f (n0++ns) lg=(JD n0 (d3 s ps a f ns lg).1,(d3 s ps a f ns lg).2):=by
 refine oF (P:=λps a f ns lg x=>d3 s ps a f (n0++ns) lg=(JD n0 x.1,x.2)) (λI I I I=>rfl) (λps a f ns lg x h=>h) (λm b ps a f ns lg e=>vW s m b ps a f _ lg e) (λm b ps a f ns lg e k=>(u6 s m b ps a f _ lg e k).trans (by cases f<;>rfl)) (λm b ps a f ns lg e x h k z=>(mB s m b ps a f _ lg h k).trans ?_);rw[<-z];cases m with
 |later=>exact az (d3 s ps e _ · lg) (aw ..)
 |_=>rfl
theorem ue(s:Str)(bp:List dZ)(a:Nat)(ns:List Str)(l:List LE){y:fP}{rs:List LE}(h:d3 s bp a false [] []=(y,rs)):d3 s bp a false ns l=(JD ns y,l++rs):=by
 have k1:=GZ s ns bp a false [] l;rw[aQ] at k1;have k2:=wz s l bp a false [] [];rw[aQ] at k2;rw[k1,k2,h]
theorem wf{s:Str}{lim n:Nat}{t:Tw}{p:eJ}{lg G':List LE}{st C':Nat}(h:(∃p',ko s lim (lim+2) t.ch t.at_ t.ns p lg st=some (.lost,p',G',C'))\/∃i r p',ko s lim (lim+2) t.ch t.at_ t.ns p lg st=some (.brk i r,none::p',G',C'))(hn:2<=n):
  ∃k p' st'',uA s lim n (some t::p) lg st=some (.lost k,p',G',st''):=by
 obtain⟨n,rfl⟩:∃m,n=m+2:=⟨n - 2,(Nat.sub_add_cancel hn).symm⟩
 rw[ji];rcases h with⟨p',e⟩ | ⟨i,r,p',e⟩
 .rw[e];exact⟨1,p',C',rfl⟩
 .rw[e];exact⟨0,p',C',rfl⟩
nonrec theorem Jl{s:Str}{fp bp:List dZ}{lim:Nat}(hlim:2<=lim)(n:Nat):∀{j:Nat} {lg:List LE} {st:Nat},j+n<=s.length+1->st+n*(bp.length+ow fp+BZ bp+2)<=lim->
  nE lim (l8 s fp bp n j lg).1 (l8 s fp bp n j lg).2 (CC s (fu fp bp) lim n j lg st):=by
 induction n with
 |zero=>intro j lg st _ _;exact⟨0,st,rfl⟩
 |succ n ih=>
  intro j lg st hj hb;have hja:j<=s.length:=by omega
  have h5:=o50 hb;have h4:=cJ (bv h5);have h3:=bv h4;have h2:=cJ h3;have h1:=bv h2;have h0:=bv h1;have z0:(false=true↔0<0):=⟨(λz=>by cases z),λz=>absurd z (bD 0)⟩
  rw[xq,kU];obtain⟨n1,g1,e1⟩:=w6 s lim bp (fh fp) [] (n:=lim+2) (st:=st) (a:=j) (ns:=[]) (p:=[]) (lg:=lg) (by omega) (by omega);rw[aQ] at e1;have q:=uz s lim (bp.map lW) [] fp (n:=n1) (st:=st+bp.length) (a:=j) (j:=0) (f:=false) (ns:=[]) (lg:=lg) z0 hja (by omega) g1;have e1:ko s lim (lim+2) [.nd (fu fp bp)] j [] [] lg st=ko s lim n1 (.nd (fh fp)::bp.map lW) j [] (List.replicate 0 none++[]) lg (st+bp.length):=e1;rw[<-e1] at q;have et:uA s lim (lim+2) (CE (fu fp bp) j) lg st=uA s lim (lim+1+1) (some ⟨[.nd (fu fp bp)],j,[]⟩::[]) lg st:=rfl;cases c1:d3 s fp j false [] lg with
  |mk y1 L'=>
   rw[c1] at q;rcases q with⟨q1,_⟩ | q
   .omega
   cases y1 with
   |over=>
    obtain⟨C',_,q2⟩:=q;obtain⟨k,p',st'',e⟩:=wf (n:=lim+1+1) (t:=⟨[.nd (fu fp bp)],j,[]⟩) (p:=[]) q2 (by omega);rw[et,e];exact⟨1,st'',rfl⟩
   |no=>
    obtain⟨k,i,r,_,k1,k2,q2⟩:=q;rw[et,ji,q2];have ih:=ih (j:=j+1) (lg:=L') (st:=st+bp.length+k) (by omega) (by omega);exact ih
   |ok a ns f=>
    obtain⟨n2,k,kf,k1,k2,q2⟩:=q;have ha:a<=s.length:=mc c1 hja;cases n2 with
    |zero=>omega
    |succ n2=>
     have q2:ko s lim (lim+2) [.nd (fu fp bp)] j [] [] lg st=ko s lim (n2+1) (.nd (.lf .suc)::bp.map lW) a ns (List.replicate k none++[]) L' (st+bp.length+ow fp):=q2;generalize List.replicate k (none:Option Tw)++[]=p1 at q2;have e2:ko s lim (n2+1) (.nd (.lf .suc)::bp.map lW) a ns p1 L' (st+bp.length+ow fp)=ko s lim n2 (bp.map lW) a ns (some ⟨.nd (.lf .suc)::bp.map lW,a,ns⟩::p1) L' (st+bp.length+ow fp+1):=by
      rw[jm,if_neg (by omega)];rfl
     have q2:=q2.trans e2;have q:=vO s lim [] (some ⟨.nd (.lf .suc)::bp.map lW,a,ns⟩::p1) bp (n:=n2) (st:=st+bp.length+ow fp+1) (a:=a) (j:=0) (f:=false) (ns:=ns) (lg:=L') z0 ha (by omega) (by omega);rw[aQ] at q;have q2:ko s lim (lim+2) [.nd (fu fp bp)] j [] [] lg st=ko s lim n2 (bp.map lW) a ns (List.replicate 0 none++(some ⟨.nd (.lf .suc)::bp.map lW,a,ns⟩::p1)) L' (st+bp.length+ow fp+1):=q2;rw[<-q2] at q;show nE lim (match d3 s bp a false [] [] with
      |(.no,rs)=>(ii.round rs,L')
      |(.over,rs)=>(.none 2,L'++rs)
      |(.ok e ms _,rs)=>(.met j e (ns++ms),L'++rs)).1 (match d3 s bp a false [] [] with
      |(.no,rs)=>(ii.round rs,L')
      |(.over,rs)=>(.none 2,L'++rs)
      |(.ok e ms _,rs)=>(.met j e (ns++ms),L'++rs)).2 _
     cases c2:d3 s bp a false [] [] with
     |mk y2 rs=>
      rw[ue s bp a ns L' c2] at q;rcases q with⟨q1,_⟩ | q
      .omega
      cases y2 with
      |over=>
       obtain⟨C',_,q3⟩:=q;obtain⟨k,p',st'',e⟩:=wf (n:=lim+1+1) (t:=⟨[.nd (fu fp bp)],j,[]⟩) (p:=[]) q3 (by omega);rw[et,e];exact⟨1,st'',rfl⟩
      |ok e ms g=>
       obtain⟨n3,k3,_,k4,k5,q3⟩:=q;cases n3 with
       |zero=>omega
       |succ n3=>
        rw[et,ji,q3];exact⟨_,rfl⟩
      |no=>
       obtain⟨k3,i,r,k4,k5,k6,q3⟩:=q;obtain⟨p',N3,m,z1,z2,z3,z4⟩:=F0 ha (p1:=p1) (λl=>ue s bp a ns l c2) lim (n:=lim+1) (st:=st+bp.length+ow fp+1+k3) (lg:=L'++rs) (by omega) k6 (by omega);have q3:ko s lim (lim+2) [.nd (fu fp bp)] j [] [] lg st=some (.brk i r,some ⟨.nd (.lf .suc)::bp.map lW,a,ns⟩::p1,L'++rs,st+bp.length+ow fp+1+k3):=q3;rw[et,ji,q3];show nE lim _ _ (match uA s lim (lim+1) (some ⟨.nd (.lf .suc)::bp.map lW,a,ns⟩::p1) (L'++rs) (st+bp.length+ow fp+1+k3) with
        |none=>none
        |some (.none,_,lg,st)=>CC s (fu fp bp) lim n (j+1) lg st
        |some (.lost _,_,lg,st)=>some (.nope 1,lg,st)
        |some (.fin a ns,_,lg,st)=>some (.met j a ns,lg,st)
        |some (.raised,_,lg,st)=>some (.raised,lg,st))
       rw[z1];refine⟨N3,m+1,rfl,z2,?_,by omega⟩;rw[bz,bP,<-aw];exact z3
set_option genSizeOf false in
set_option genInjectivity false in
structure zg where
 nm:Str
 q:Str
 bs:List Value
 sn:List Str
 sub:List Value
 ab:Bool
 col:Option Bool
 dd:Option Addr
 k0:Option Value
 k1:Option Value
 k2:Option Value
 k3:Option Value
 k5:Option Value
abbrev zg.o(x:zg)(C N:Addr)(bm:List Value)(h:Bool)(newId:String):Obj:=excClassObj x.nm x.q C N x.bs bm h x.sn x.sub x.ab x.col x.dd x.k0 x.k1 x.k2 x.k3 x.k5 newId
theorem qV:Slot "wrapper_descriptor" "__get__" "wrapper_descriptor.__get__":=.of (owner:="wrapper_descriptor") (n:="__get__") (by rw[typeLookup_type,builtinLookup_eq_fast];kernel_rfl) (by decide+kernel) (by decide+kernel) (by decide+kernel)
 (by first | exact .inl (by decide+kernel) | exact .inr (by decide+kernel)) (by rw[isSubtype_type];kernel_rfl)
theorem u7:entryFor table "wrapper_descriptor.__get__"=some Builtin.«wrapper_descriptor.__get__»:=entryFor_of_tree (by kernel_rfl)
theorem xn(a b c:Value):argsOk "wrapper_descriptor.__get__" ⟨[a,b,c],[]⟩:=by unfold argsOk;kernel_rfl
theorem Jo{prog:Program}{w:World}{A:Around}{E:Value->Shared->Prop}{h:Heap}{g:Array GenState}{d:Drawn}{t:Nat}{os:OsState}{xc:zg}{C N:Addr}{bm:List Value}{hdct:Bool}{newId:String}{e:Addr}{oe:Obj}{Q:Fin->Shared->Prop}(hC:h.get? C=some (xc.o C N bm hdct newId))(he:h.get? e=some oe)(hcls:oe.cls= .ref C)(hb:bm.contains (.type "Exception")=true)
  (hq:Q (.done (.ret (.ref h.objs.size))) ⟨h.push {cls:=.type "method-wrapper",data:=.fields #[.builtin "Exception.__init__",.ref e]},g,d,t,os⟩):
  wpAny (model prog w) A (Builtin.«wrapper_descriptor.__get__» ⟨[.builtin "Exception.__init__",.ref e,.ref C],[]⟩) Q E ⟨h,g,d,t,os⟩:=by
 have hcB:(Value.ref C::bm).contains (.type "Exception")=true:=by rw[List.contains_cons,hb,Bool.or_true]
 have hs:".".intercalate ("Exception.__init__".cutAt '.').dropLast="Exception":=by decide+kernel
 unfold Builtin.«wrapper_descriptor.__get__»
 repeat (first
  |(with_reducible refine bf he ?_;rw[hcls])
  |with_reducible refine bf hC ?_
  |(with_reducible refine wpAny_isSubtype_exc hC ?_;rw[hcB])
  |(rw[hs])
  |wp_step)
 all_goals exact hq
nonrec theorem wK{prog:Program}{w:World}{A:Around}{E:Value->Shared->Prop}{h:Heap}{g:Array GenState}{d:Drawn}{t:Nat}{os:OsState}{xc:zg}{C N:Addr}{bm:List Value}{hdct:Bool}{newId:String}{so D x:Addr}{ox:Obj}{l₀ l:List Value}{tk:Tok}{Q:Fin->Shared->Prop}(hso:h.get? so=some {cls:=.type "super",dict:=none,data:=.fields #[.ref D,.ref x,.ref C],slots:=#[]})(hno:Looks (model prog w) h (opaqueClassAbove (.ref C)) none)(hM:Looks (model prog w) h (mroOf (.ref C)) l₀)(hl:(l₀.dropWhile (· != .ref D)).drop 1= .type "Exception"::l)(hxC:x≠C)(hC:h.get? C=some (xc.o C N bm hdct newId))(hx:h.get? x=some ox)(hcls:ox.cls= .ref C)(hb:bm.contains (.type "Exception")=true)(hq:Q (.done (.ret (.ref h.objs.size))) ⟨h.push {cls:=.type "method-wrapper",data:=.fields #[.builtin "Exception.__init__",.ref x]},g,d,t,os⟩):
  wpAny (model prog w) A (Builtin.«super.__getattribute__» ⟨[.ref so,.str "__init__" tk],[]⟩) Q E ⟨h,g,d,t,os⟩:=by
 have hlk:=qV.lookup;have hne:(Value.ref x==Value.ref C)=false:=by simp [hxC]
 have hdt:({cls:=.type "super",dict:=none,data:=.fields #[.ref D,.ref x,.ref C],slots:=#[]}:Obj).data= .fields #[.ref D,.ref x,.ref C]:=rfl;have f0:(#[.ref D,.ref x,.ref C]:Array Value)[0]?=some (.ref D):=rfl;have f1:(#[.ref D,.ref x,.ref C]:Array Value)[1]?=some (.ref x):=rfl;have f2:(#[.ref D,.ref x,.ref C]:Array Value)[2]?=some (.ref C):=rfl;have hbt:builtinType "Exception.__init__"=pure (.type "wrapper_descriptor"):=by kernel_rfl
 have hbo:builtinOwn "Exception" "__init__"=some (.builtin "Exception.__init__"):=by kernel_rfl
 have hn:(("__init__":Str)==("__class__":Str))=false:=by decide+kernel
 have hT:(⟨h,g,d,t,os⟩:Shared).TypeIs (.builtin "Exception.__init__") "wrapper_descriptor":=hbt;unfold Builtin.«super.__getattribute__»
 iterate 16 (first
  |(with_reducible refine cD hso hdt f0 ?_) | (with_reducible refine cD hso hdt f1 ?_) | (with_reducible refine cD hso hdt f2 ?_)
  |(with_reducible refine ks_wpAny_notOpaque hno ?_)
  |(simp only[hn,hne,Bool.or_false,Bool.false_eq_true,if_false])
  |wp_step)
 rw[if_neg (by simp)];refine aa (ks_wpAny_notOpaque hno ?_);rw[if_neg (by simp)];refine aa (Looks.at hM ?_);rw[hl,List.forIn_cons];have hco:classOwn (.type "Exception") (Str.ofString "__init__")=pure (some (.builtin "Exception.__init__")):=az pure hbo;rw[hco];refine aa (aa (aa (aE ?_)));dsimp only;refine aa (bV hbt ?_);refine aa (bV hlk ?_);dsimp only;refine aa (aU (wpAny_call_entry qV hT u7 ?_ (xn _ _ _)));refine Jo hC hx hcls hb ?_;refine⟨_,rfl,aa (aE (aE (aE (aE hq))))⟩
abbrev Fk:List Value:=[.type "Exception",.type "BaseException",.type "object"]
nonrec theorem Fg{prog:Program}{w:World}{A:Around}{E:Value->Shared->Prop}{h:Heap}{g:Array GenState}{d:Drawn}{t:Nat}{os:OsState}{xc:zg}{C N:Addr}{bm:List Value}{hdct:Bool}{newId:String}{e:Addr}{oe:Obj}{x:Value}{Q:Unit->Shared->Prop}(hC:h.get? C=some (xc.o C N bm hdct newId))(he:h.get? e=some oe)(hcls:oe.cls= .ref C)(hq:Q Unit.unit ⟨h,g,d,t,os⟩):wpAny (model prog w) A (checkBoundCall "Exception.__init__" ⟨[.ref e,x],[]⟩) Q E ⟨h,g,d,t,os⟩:=by
 have hshort:=F.excBase_Exception.noStar;unfold checkBoundCall;simp only[F.excBase_Exception.initKind,F.excBase_Exception.initRow];unfold Bind.checkArgs
 repeat (first | (with_reducible refine bf he ?_;rw[hcls]) | with_reducible refine bf hC ?_ | wp_step)
 exact hq
theorem u4{prog:Program}{w:World}{A:Around}{h:Heap}{g:Array GenState}{d:Drawn}{t:Nat}{os:OsState}{xc:zg}{C N:Addr}{bm:List Value}{hdct:Bool}{newId:String}{e b:Addr}{odx:Option Addr}{vs:List Value}{osl:Array (Option Value)}{a0:Addr}{x:Value}{R:Result->Shared->Prop}(hC:h.get? C=some (xc.o C N bm hdct newId))
  (he:h.get? e=some ⟨.ref C,odx,.fields ⟨.ref a0::vs⟩,osl⟩) (hb:h.get? b=some {cls:=.type "method-wrapper",data:=.fields #[.builtin "Exception.__init__",.ref e]})
  (hR:∀h',h'.get? e=some ⟨.ref C,odx,.fields ⟨.ref h.objs.size::vs⟩,osl⟩->(∀c o,c≠e->h.get? c=some o->h'.get? c=some o)->R (.ok (.ret .none)) ⟨h',g,d,t,os⟩):
  codeAny (model prog w) A (.call (.ref b) ⟨[x],[]⟩) R ⟨h,g,d,t,os⟩:=by
 refine codeAny_of_tree ?_;show wpAny _ A.in1 (callAny (.ref b) _) _ _ _;unfold callAny;refine aa (wpAny_load hb ?_);dsimp only;rw[if_pos (by decide+kernel)];refine aa (Fg hC he rfl (aE ⟨Code.quiet_builtin _ (by decide+kernel),codeAny_builtin F.excBase_Exception.initEntry ?_⟩));unfold Builtin.«BaseException.__init__»;show wpAny _ _ (do let t <-newTuple [x];Builtin.BaseException.bexcPut (.ref e) 0 t;ret .none) _ _ _;have he':(h.push {cls:=.type "tuple",data:=.seq [x].toArray}).get? e=some ⟨.ref C,odx,.fields ⟨.ref a0::vs⟩,osl⟩:=ae _ he;wp_walk;refine hR _ ?_ (λc o hc e'=>?_)
 .rw[bM _ he' rfl]
  rfl
 .rw[aL _ _ (Ne.symm hc)]
  exact ae _ e'
theorem vP{prog:Program}{w:World}{A:Around}{E:Value->Shared->Prop}{h:Heap}{g:Array GenState}{d:Drawn}{t:Nat}{os:OsState}{xc:zg}{C N:Addr}{bm:List Value}{hdct:Bool}{newId:String}{so D x:Addr}{ox:Obj}{l₀ l:List Value}{pl:Sem Bool}{Q:Value×List Value->Shared->Prop}
  (hso:h.get? so=some {cls:=.type "super",dict:=none,data:=.fields #[.ref D,.ref x,.ref C],slots:=#[]}) (hno:Looks (model prog w) h (opaqueClassAbove (.ref C)) none)
  (hM:Looks (model prog w) h (mroOf (.ref C)) l₀) (hl:(l₀.dropWhile (· != .ref D)).drop 1= .type "Exception"::l) (hxC:x≠C)
  (hC:h.get? C=some (xc.o C N bm hdct newId)) (hx:h.get? x=some ox) (hcls:ox.cls= .ref C) (hb:bm.contains (.type "Exception")=true)
  (hq:Q (.ref h.objs.size,[]) ⟨h.push {cls:=.type "method-wrapper",data:=.fields #[.builtin "Exception.__init__",.ref x]},g,d,t+1,os⟩):
  wpAny (model prog w) A (getMethod (.ref so) "__init__" pl) Q E ⟨h,g,d,t,os⟩:=by
 have T:∀t',(⟨h,g,d,t',os⟩:Shared).TypeIs (.ref so) "super":=λI=>⟨_,hso,rfl⟩
 have lk:=F.ks_slot_super_ga.lookup;unfold getMethod;refine aa (wpAny_specialOf (T _) lk ?_);show wpAny _ _ (if(Manifest.canonical "super.__getattribute__" != "object.__getattribute__")=true then _ else _) _ _ _;rw[if_pos F.ks_canon_super_ga];unfold getAttr getAttrBy;refine aa (aa (wpAny_mkText (aU (aa (wpAny_typeOf (T _) (aa (bV lk ?_)))))));show wpAny _ _ (getAttrByItsOwn (.ref so) (.str "__init__" t) (.type "super") (.builtin "super.__getattribute__") true false) _ _ _;unfold getAttrByItsOwn hookBefore callGetattribute boundAndCalled;refine aa (bV (show(if onTheHeap (.type "super") then typeLookup (.type "super") "__getattr__" else pure none)=pure none from rfl) ?_);refine aa (wpAny_attempt (aU ?_));show wpAny _ _ (bindSpecial (.builtin "super.__getattribute__") (.ref so) >>= _) _ _ _;refine aa (bV (F.ks_slot_super_ga.bind _) ?_);refine aK (Q:=λv s'=>v= .ref h.objs.size/\s'=⟨h.push {cls:=.type "method-wrapper",data:=.fields #[.builtin "Exception.__init__",.ref x]},g,d,t+1,os⟩) (E:=λI I=>False)
  (wpAny_call_entry F.ks_slot_super_ga (T _) F.ks_entry_super_ga (wK hso hno hM hl hxC hC hx hcls hb ⟨_,rfl,rfl,rfl⟩) (F.ks_gaArgs_super _ _)) (λv s' hv=>?_) λI I z=>z.elim
 obtain⟨rfl,rfl⟩:=hv;exact aE (aE hq)
section
set_option tactic.hygienic true
theorem vQ{M:Model}{A:Around}{E:Value->Shared->Prop}{env:Env}{s:Shared}{xc:zg}{C N:Addr}{bm:List Value}{hdct:Bool}{newId:String}{x:Sem Value}{Q:Flow->Shared->Prop}(hbase:bm.contains (.type "BaseException")=true)(hh:A.handled=none)
  (h:wpAny M A x (λv s₁=>∃e t od osl,v= .ref e/\s₁.heap.get? C=some (xc.o C N bm hdct newId)/\
   s₁.heap.get? e=some ⟨.ref C,od,.fields #[.ref t,.none,.none,.none,.bool false,.none],osl⟩/\E (.ref e) s₁) E s):wpAny M A (raiseStmt env (some x) none) Q E s:=by
 have hcB:(Value.ref C::bm).contains (.type "BaseException")=true:=by rw[List.contains_cons,hbase,Bool.or_true]
 unfold raiseStmt;refine aa (aK h (λv s₁ h₁=>?_) λI I x=>x);obtain⟨e,t,od,osl,rfl,hC,he,hE⟩:=h₁;obtain⟨hp,g,d,tk,os⟩:=s₁
 repeat (first | with_reducible refine bf he ?_ | with_reducible refine bf hC ?_ | (with_reducible refine wpAny_isSubtype_exc hC ?_;rw[hcB]) | wp_step)
 exact wpAny_raiseNew_none hh hE
def hV:Str:=S [101,114,114,111,114]
def yA:Str:=S [115,116,101,112,115]
def HT:List MS:=[.oth,.asgA (.loc cV) dX (.loc dX),.asgA (.loc cV) dN (.loc dN)]
abbrev Id:Sk Stmt:=.exprS (.meth (.call (.nS "super") .nil) "__init__" (.l [.cst (.str hV)]))
theorem vh{o:Expr}{name:Str}{apos pos:Pos}{x:Str}{k:Nat}{p:Pos}{M:Model}{A:Around}{cd:Code}{E:Value->Shared->Prop}{env:Env}{s:Shared}{Q:Value->Shared->Prop}(hline:(apos.endLine==pos.line)=true)
  (h:PySem.wpAt M A cd (attributeBase o name env (eval o env)) (λov s₁=>∀pl,wpAny M A (getMethod ov name pl) (λr s₂=>wpAny M A (callWith pos r.1 r.2 (backTo pos (starEach [.Constant (.str x) k p] env)) []) Q E s₂) E s₁) E s):
  PySem.wpAt M A cd (eval (.Call (.Attribute o name apos) [.Constant (.str x) k p] [] pos) env) Q E s:=by
 have hpos:methodCallPos true o env apos pos=pure pos:=by unfold methodCallPos;simp [hline]
 rw[arm_eval_Call];refine PySem.wpAt_bind (ks_wpAt_mono h (λov s₁ h₁=>?_) λI I e=>e);refine wpAt_of_wpAny (aa (ba ?_));show wpAny M A (methodCall o name apos pos env ov 1 (backTo pos (starEach [.Constant (.str x) k p] env)) []) Q E s₁;unfold methodCall;rw[show methodCallForm 1 (backTo pos (starEach [.Constant (.str x) k p] env)) []=true from rfl];refine aa (aU (aK (h₁ _) (λr s₂ h₂=>?_) λI I e=>e));exact aa (bV hpos h₂)
structure XF(c:Cx):Prop where
 cls:∃xc:zg,c.K.lookup 120=some (xc.o 120 119 Fk true "Exception.__new__")
 ns:∃mN,c.h₀.Ns 119 mN/\mN "__init__"=some (.ref 117)/\mN "__setattr__"=none/\mN (c.nm dX)=none/\mN (c.nm dN)=none
 ns2:∃mN,c.h₀.Ns 119 mN/\mN (c.nm dX)=none/\mN "__getattribute__"=none/\mN "__getattr__"=none
 opq:nsIn c.K cStatics "thirdparty.any"=some none
 nmN:typeLookup (.type "Exception") (c.nm dX)=pure none
 nmT:typeLookup (.type "Exception") (c.nm dN)=pure none
 fn:∃fd b,tO c 117 [cV,dX,dN] HT fd b/\Fj fd.scope (.cons Id .any) b=true/\fd.closure=[(("__class__":Str),104)]/\fd.scope.names.lookup ("super":Str)=some .globalImplicit/\
  fd.scope.names.lookup ("__class__":Str)=some .free/\(∃ar,(fd.params.posonlyargs++fd.params.args).head?=some ar/\ar.arg=c.nm cV)/\
  ∃vs file tf co cd sl,fd.code= .ref 116/\c.K.lookup 116=some ⟨co,cd,.fields vs,sl⟩/\vs[2]?=some (.str file tf)/\(c.prog.main.file==file)=true
 fcls:∀o,c.K.lookup 117=some o->o.cls= .type "function"
 cell:∃co cd sl,c.K.lookup 104=some ⟨co,cd,.cell (some (.ref 120)),sl⟩
 top:(c.prog.main.scope.names.lookup ("super":Str)).isSome=false
 sup:c.mg "super"=none/\c.mb "super"=some (.type "super")
 exc:c.mg "SnobolError"=some (.ref 120)
theorem Iw{nm:Nat->Str}{sc:Scope}{a b c:MS}{l:List Stmt}(h:iT nm sc [a,b,c] l=true):∃x y z,l=[x,y,z]/\gI nm sc a x=true/\gI nm sc b y=true/\gI nm sc c z=true:=by
 obtain⟨x,r,rfl,h1,h⟩:=hG _ _ h;obtain⟨y,r,rfl,h2,h⟩:=hG _ _ h;obtain⟨z,r,rfl,h3,h⟩:=hG _ _ h;obtain rfl:=oU _ _ h;exact⟨x,y,z,rfl,h1,h2,h3⟩
theorem yV{nm:Nat->Str}{sc:Scope}{n:Nm}{e:Expr}(h:dO nm sc (.loc n) e):∃p,e= .Name (nm n) p/\sc.names.lookup (nm n)=some .local/\(nm n==("__debug__":Str))=false:=u3 _ _ h
theorem Ls{c:Cx}(X:c.Ok)(a v u:Value):(((([cV,dX,dN].map c.nm).zip [a,v,u]).reverse).lookup (c.nm cV))=some a/\(((([cV,dX,dN].map c.nm).zip [a,v,u]).reverse).lookup (c.nm dX))=some v/\
  (((([cV,dX,dN].map c.nm).zip [a,v,u]).reverse).lookup (c.nm dN))=some u:=by
 have ne:∀i j,i≠j->(c.nm i==c.nm j)=false:=λi j h=>bK.mpr λz=>h (X.inj _ _ z);have e1:((([cV,dX,dN].map c.nm).zip [a,v,u]).reverse)=[(c.nm dN,u),(c.nm dX,v),(c.nm cV,a)]:=rfl;rw[e1];refine⟨?_,?_,?_⟩
 .rw[aW,ne cV dN ()]
  dsimp only;rw[aW,ne cV dX ()];dsimp only;rw[aW,bC]
 .rw[aW,ne dX dN ()]
  dsimp only;rw[aW,bC]
 .rw[aW,bC]
open PySem.Builtin PySem.Builtin.ObjectAttr in
theorem vH{prog:Program}{w:World}{A:Around}{E:Value->Shared->Prop}{h:Heap}{g:Array GenState}{d:Drawn}{t:Nat}{os:OsState}{xc:zg}{C N x:Addr}{bm:List Value}{B newId sa owner:String}{mN:Str->Option Value}{name:Str}{v:Value}{tk:Tok}{Q:Fin->Shared->Prop}{o:Obj}(SF:StoreFacts B bm sa owner)(hC:h.get? C=some (xc.o C N bm true newId))
  (hn:h.Ns N mN) (hna:mN name=none) (hB:typeLookup (.type B) name=pure none) (hx:h.get? x=some o) (hc:o.cls= .ref C) (hnc:∀c,o.data≠ .cls c) (hdn:o.dict=none)
  (hq:∀h' tk',h'.get? x=some ⟨o.cls,some h.objs.size,o.data,o.slots⟩->h'.Ns1 h.objs.size (λy=>if y=name then some v else none)->(∀b ob,b≠x->h.get? b=some ob->h'.get? b=some ob)->Q (.done (.ret .none)) ⟨h',g,d,tk',os⟩):
  wpAny (model prog w) A (Builtin.«object.__setattr__» ⟨[.ref x,.str name tk,v],[]⟩) Q E ⟨h,g,d,t,os⟩:=by
 have hpass:=SF.passes (.ref x);unfold Builtin.«object.__setattr__»
 repeat (first | rw[refuse_eq] | (rw[refuseLoop_ref,hpass]) | (with_reducible refine bf hx ?_;rw[hc]) | with_reducible refine wpAny_mroOf_exc hC ?_ | (with_reducible refine cI hC hn SF.mro hB ?_;rw[hna]) | wp_step)
 rw[hdn,if_neg (by simp [typeHasDict])]
 split
 .rename_i z;cases z
 split
 .rename_i c z;exact absurd z (hnc c)
 have px:(h.push {cls:=.type "dict",data:=.dict #[]}).get? x=some o:=ae _ hx;have ne:x≠h.objs.size:=bG (ay hx);refine aa (wpAny_alloc' (aa (wpAny_update' px (aE ?_))));generalize hg:((h.push {cls:=.type "dict",data:=.dict #[]}).update x λo=>{cls:=o.cls,dict:=some h.objs.size,data:=o.data,slots:=o.slots})=h2;have gd:h2.get? h.objs.size=some {cls:=.type "dict",data:=.dict #[]}:=by subst hg;exact(Heap.get?_update_ne _ _ _ _ ne.symm).trans (Heap.get?_push_at rfl rfl)
 have gx:h2.get? x=some ⟨o.cls,some h.objs.size,o.data,o.slots⟩:=by
  subst hg;refine bM _ px ?_;have fr:=(Heap.get?_some_iff.mp hx).2;clear hq hnc hdn px hc hx;obtain⟨oc,od,odt,osl⟩:=o;cases odt<;>first | rfl | exact fr
 have kp:∀b ob,b≠x->h.get? b=some ob->h2.get? b=some ob:=λb ob hb z=>by subst hg;exact(Heap.get?_update_ne _ _ _ _ hb).trans (ae _ z)
 show wpAny _ _ (storeInDict h.objs.size (.str name tk) name v) _ _ _;unfold storeInDict newKeyGuard;have nd:h2.Ns h.objs.size (λ_=>none):=⟨_,#[],_,gd,rfl,λe he=>absurd he (by simp),λ_=>rfl⟩
 refine aa (aE (aa (wpAny_nsSet1 (Heap.Ns1.of_empty nd) λh' hn' hs=>?_)));obtain⟨oD,esD,epD,hoD,hdD,hcD⟩:=hn'.count (Within.cons name v Within.nil);refine aa (wpAny_lookBehind hoD (by rw[hdD];exact pastItsLine_dict (ax hcD (by rw[bJ,bI,sizeLine_eq];omega))) ?_);wp_walk;refine hq h' _ ((hs.2 x ne).trans gx) hn' λb ob hb z=>?_;exact(hs.2 b (bG (ay z))).trans (kp b ob hb z)
theorem xu{prog:Program}{w:World}{A:Around}{E:Value->Shared->Prop}{h:Heap}{g:Array GenState}{d:Drawn}{t:Nat}{os:OsState}{xc:zg}{C N x:Addr}{bm:List Value}{B newId sa owner:String}{mN:Str->Option Value}{name:Str}{v:Value}{Q:Unit->Shared->Prop}{o:Obj}(SF:StoreFacts B bm sa owner)(hC:h.get? C=some (xc.o C N bm true newId))
  (hn:h.Ns N mN) (hns:mN "__setattr__"=none) (hna:mN name=none) (hB:typeLookup (.type B) name=pure none) (hx:h.get? x=some o) (hc:o.cls= .ref C) (hnc:∀c,o.data≠ .cls c) (hdn:o.dict=none)
  (hq:∀h' tk',h'.get? x=some ⟨o.cls,some h.objs.size,o.data,o.slots⟩->h'.Ns1 h.objs.size (λy=>if y=name then some v else none)->(∀b ob,b≠x->h.get? b=some ob->h'.get? b=some ob)->Q Unit.unit ⟨h',g,d,tk',os⟩):
  wpAny (model prog w) A (setAttr (.ref x) name v) Q E ⟨h,g,d,t,os⟩:=by
 have f3:=SF.slot.bind (.ref x);unfold setAttr callSpecial? specialOf
 repeat (any_goals (first | assumption | (with_reducible refine bf hx ?_;rw[hc]) | (with_reducible refine cI hC hn SF.mro SF.slot.lookup ?_;rw[hns]) | wp_step))
 refine codeAny_call_builtin SF.slot.plain SF.entry (wpAny_check_sa SF hC hx hc (vH SF hC hn hna hB hx hc hnc hdn λh' tk' a b e=>?_))
 repeat (any_goals (first | assumption | wp_step))
 exact hq h' tk' a b e
theorem uk{c:Cx}{A:Around}{E:Value->Shared->Prop}{Q:Flow->Shared->Prop}{env:Env}{s:Shared}{y:Stmt}{n m:Nm}{L e:Addr}{mp:Str->Option Value}{v:Value}
  (ck:gI c.nm env.scope (.asgA (.loc cV) n (.loc m)) y=true) (hL:env.locals=L) (hk:env.scope.kind= .function) (hns:s.heap.Ns L mp) (h1:mp (c.nm cV)=some (.ref e)) (h2:mp (c.nm m)=some v)
  (l1:env.scope.names.lookup (c.nm cV)=some .local) (l2:env.scope.names.lookup (c.nm m)=some .local) (q:wpAny c.M A (setAttr (.ref e) (c.nm n) v) (λI s'=>Q .next s') E s):
  wpAny c.M A (exec y env) Q E s:=by
 obtain⟨o',p,v',p',rfl,hn,c1,c2⟩:=xp _ _ ck;obtain⟨p1,rfl,_,d1⟩:=yV c1;obtain⟨p2,rfl,_,d2⟩:=yV c2;subst hL;refine cC (wpAny_Name (cj hk l2 hns h2 ?_) d2) (mX hn _ _ _) rfl;show wpAny c.M A (assign (.Attribute (.Name (c.nm cV) p1) _ p) env v) _ E _;rw[arm_assign_Attribute];refine aa (aU (wpAny_Name (cj hk l1 hns h1 ?_) d1));exact aa (ba (aa (aU (aK q (λI s' z=>wpAny_release z) λI I z=>z))))
theorem FO{o:Obj}{a:Value}{b:Option Addr}{c:Data}(h:o.cls=a)(k:o.dict=b)(l:o.data=c):o=⟨a,b,c,o.slots⟩:=by subst h k l;rfl
nonrec theorem Gv{c:Cx}{A:Around}{R:Result->Shared->Prop}(X:c.Ok)(F:XF c){s:Shared}{e t:Addr}{v u:Value}(fre:c.h₀.get? e=none)(sub:∀b o,c.h₀.get? b=some o->s.heap.get? b=some o)(hroom:A.depth<recursionLimit)(he:s.heap.get? e=some ⟨.ref 120,none,.fields #[.ref t,.none,.none,.none,.bool false,.none],#[]⟩)(hR:∀h' tk' t' d o mA,(∀b o,b≠e->s.heap.get? b=some o->h'.get? b=some o)->h'.get? e=some ⟨.ref 120,some d,.fields #[.ref t',.none,.none,.none,.bool false,.none],o⟩->d≠e->s.heap.get? d=none->h'.Ns d mA->mA (c.nm dX)=some v->
   R (.ok (.ret .none)) {s with heap:=h',toks:=tk'}):codeAny c.M A (.call (.ref 117) ⟨[.ref e,v,u],[]⟩) R s:=by
 obtain⟨fd,b,K,cs,hclo,hsu,hkc,⟨ar,har,harg⟩,vs,file,tf,co,cd,csl,hcode,hco,hvs,hfile⟩:=F.fn;obtain⟨oc,od,osl,hf⟩:=K.at_;have inS:c.K.In s.heap:=X.X.keeps sub;obtain⟨y1,y2,y3,rfl,c1,c2,c3⟩:=Iw K.chk;have cf:=qE cs;obtain⟨hy,_⟩:=List.cons.inj cf.1;rw[hy] at K;have hln:=cf.2.1.1;obtain⟨xc,hC⟩:=F.cls;obtain⟨cco,ccd,ccl,hcell⟩:=F.cell;have lim:s.heap.NoLimit:=X.lim.keeps sub;refine ks_codeAny_call_defAt hroom (inS _ _ hf) rfl lim (codeRec_of inS K.code) K.fbody (K.bind _ inS [.ref e,v,u] rfl) K.cell (λx m=>?_) (λh₁ hns kp=>?_) K.co K.gen K.kind
 .obtain⟨j,hj,e⟩:=List.mem_map.mp (cO m).1
  rw[<-e];exact K.loc j hj
 have sub1:∀b o,c.h₀.get? b=some o->h₁.get? b=some o:=λb o z=>kp _ _ (sub b o z);have inH:c.K.In h₁:=X.X.keeps sub1;have lS:fd.scope.names.lookup (c.nm cV)=some .local:=K.loc _ (.head _);refine ks_wpAt_execs_cons (ks_wpAt_Expr_any (vh hln ?_) (by unfold interactive;rw[show(callEnv fd s.heap.objs.size 117).scope.kind= .function from K.kind];rfl));refine ks_wpAt_super_base (of:=⟨oc,od,.func fd,osl⟩) (oc:=⟨co,cd,.fields vs,csl⟩) hsu hkc (by decide+kernel) rfl (inH _ _ hf) rfl har hcode (inH _ _ hco) rfl hvs hfile F.top ?_;have mg1:h₁.Ns mainGlobals c.mg:=X.g.keeps sub1;have mb1:h₁.Ns builtinsNs c.mb:=X.b.keeps sub1;refine ks_loadName_global K.kind hsu (loadGlobal_builtin (env:=callEnv fd s.heap.objs.size 117) (by rw[show(callEnv fd s.heap.objs.size 117).globals=mainGlobals from K.glob];exact mg1) F.sup.1 (by rw[show(callEnv fd s.heap.objs.size 117).builtins=builtinsNs from K.blt];exact mb1) F.sup.2 ⟨rfl,?_⟩);refine wpAny_loadName_free K.kind hkc (by show(fd.closure.lookup ("__class__":Str))=some 104;rw[hclo];rfl) ⟨_,inH _ _ hcell,rfl⟩ ?_;obtain⟨nself,nnum,ntold⟩:=Ls X (Value.ref e) v u;refine cj (v:=.ref e) K.kind (by rw[harg];exact lS) hns (by rw[harg];exact nself) ?_;have e1:=kp _ _ he;have hcl:clsIn c.K 120=some {name:=xc.nm,bases:=xc.bs,mro:=.ref 120::Fk,ns:=119,qualname:=xc.q,hasDict:=true,slotNames:=xc.sn,subclasses:=xc.sub,abstract:=xc.ab,collection:=xc.col,hasDel:=false}:=by unfold clsIn;rw[hC]
 refine ks_wpAny_isType_cls (inH _ _ hC) rfl ⟨rfl,?_⟩;refine ks_wpAny_call_super (inH _ _ hC) rfl e1 rfl (λc z=>by cases z) (looks_mroIn inH (by unfold mroIn;rw[hcl];rfl)) (λh₂ so kp2=>?_);intro pl;have inH2:c.K.In h₂:=inH.keeps kp2;refine vP so (looks_opaque inH2 F.opq) (l₀:=.ref 120::Fk) (l:=[.type "BaseException",.type "object"]) (λA Q E s k q=>aa ((looks_clsIn inH2 hcl) A _ E s k (aE q))) rfl ?_ (inH2 _ _ hC) (kp2 _ _ e1) rfl rfl ?_
 .intro z
  have:=inS _ _ hC;rw[<-z,he] at this;cases this
 generalize hb3:h₂.push {cls:=.type "method-wrapper",data:=.fields #[.builtin "Exception.__init__",.ref e]}=h₃;have kp3:∀b o,h₂.get? b=some o->h₃.get? b=some o:=λb o z=>by subst hb3;exact ae _ z
 have w3:h₃.get? h₂.objs.size=some {cls:=.type "method-wrapper",data:=.fields #[.builtin "Exception.__init__",.ref e]}:=by subst hb3;exact Heap.get?_push_at rfl rfl
 refine callWith_of (P:=λh=>h.get? h₂.objs.size=some {cls:=.type "method-wrapper",data:=.fields #[.builtin "Exception.__init__",.ref e]}) rfl (λh z=>?_) ?_
 .refine⟨.machine,.inr (.inl rfl),(Looks.ld (part:=none) z).andThen ?_⟩
  exact .now
 refine cu (aF (cH (aN ⟨w3,cR ?_⟩)));have inH3:c.K.In h₃:=inH2.keeps kp3;refine u4 (inH3 _ _ hC) (kp3 _ _ (kp2 _ _ e1)) w3 λh₄ e4 kp4=>?_;have kp5:∀b o,b≠e->h₁.get? b=some o->h₄.get? b=some o:=λb o hb z=>kp4 _ _ hb (kp3 _ _ (kp2 _ _ z));obtain⟨mN,n1,n2,n3,n4,n5⟩:=F.ns;have sub4:∀b o,c.h₀.get? b=some o->h₄.get? b=some o:=λb o z=>kp5 b o (λq=>by rw[q,fre] at z;injection z) (sub1 _ _ z);have eL:e<s.heap.objs.size:=ay he;have hns4:h₄.Ns s.heap.objs.size (λx=>((([cV,dX,dN].map c.nm).zip [Value.ref e,v,u]).reverse).lookup x):=by
  obtain⟨o,es,ep,z,r⟩:=hns;exact⟨o,es,ep,kp5 _ _ (Nat.ne_of_gt eL) z,r⟩
 have notC:e≠120:=λz=>by
  have:=X.X _ _ hC;rw[<-z,fre] at this;injection this
 have inH4:c.K.In h₄:=X.X.keeps sub4;refine PySem.wpAt_of_wpAny (ak ?_);refine uk (n:=dX) (m:=dX) (L:=s.heap.objs.size) c2 rfl K.kind hns4 nself nnum lS (K.loc _ (.tail _ (.head _))) ?_;refine xu PySem.F.store_Exception (inH4 _ _ hC) (n1.keeps sub4) n3 n4 F.nmN e4 rfl (λI q=>by cases q) rfl λh₅ tk5 e5 d5 kp6=>?_;have sub5:∀b o,c.h₀.get? b=some o->h₅.get? b=some o:=λb o z=>kp6 b o (λq=>by rw[q,fre] at z;injection z) (sub4 _ _ z);have hns5:h₅.Ns s.heap.objs.size (λx=>((([cV,dX,dN].map c.nm).zip [Value.ref e,v,u]).reverse).lookup x):=by
  obtain⟨o,es,ep,z,r⟩:=hns4;exact⟨o,es,ep,kp6 _ _ (Nat.ne_of_gt eL) z,r⟩
 have e4s:e<h₄.objs.size:=ay e4;refine ak ?_;refine uk (n:=dN) (m:=dN) (L:=s.heap.objs.size) c3 rfl K.kind hns5 nself ntold lS (K.loc _ (.tail _ (.tail _ (.head _)))) ?_;refine store_attr (ns:=[c.nm dX]) PySem.F.store_Exception (X.X.keeps sub5 _ _ hC) (n1.keeps sub5) n3 n5 F.nmT notC ⟨_,e5,rfl,(λI q=>by cases q),.inr ⟨_,rfl,(bG e4s).symm,d5⟩⟩ (λh₆ tk6 I6 kp7 dd6=>?_) (λy hy=>?_) (by show 1<=sizeLine;decide)
 .obtain⟨o6,e6,cl6,da6,sl6,di6⟩:=dd6 _ e5
  obtain⟨o6',e6',_,_,I6⟩:=I6;have eo:o6=o6':=ac (e6.symm.trans e6');have di:=di6 _ rfl;rw[<-eo,di] at I6;rcases I6 with⟨z,_⟩ | ⟨dx,z,nx,N6⟩
  .injection z
  .injection z with z
   rw[<-z] at nx N6;refine aM ?_;refine hR h₆ tk6 h₃.objs.size _ o6.slots _ (λb o hb z=>?_) ?_ nx ?_ N6.ns ?_
   .have:=ay (kp5 _ _ hb (kp _ _ z))
    exact kp7 b o hb (λo₀ dx z1 z2=>by rw[<-ac (e5.symm.trans z1)] at z2;injection z2 with z2;rw[<-z2];exact bG this) (kp6 _ _ hb (kp5 _ _ hb (kp _ _ z)))
   .rw[e6]
    exact az some (FO cl6 di da6)
   .cases z:s.heap.get? h₄.objs.size with
    |none=>rfl
    |some o=>exact absurd (ay (kp5 _ _ (bG e4s).symm (kp _ _ z))) (bD _)
   .show(if c.nm dX=c.nm dN then _ else _)=_
    rw[if_neg (λz=>absurd (X.inj _ _ z) ()),if_pos rfl]
 .by_cases z:y=c.nm dX
  .rw[z];exact .head _
  .exact absurd (if_neg z) hy
end
section
variable{l₀:List Nat} {fi:Nat} {I':List O} {ch:List Ch} {cs:List Prop} {env:Env}
theorem jJ{b:Bs}{r n:Nat}{σ:List O}(G:dI b){m:MS}{fl:Fl}(h:Option.map pT (jk (Pg (fe l₀) (Ct b r) (Lt b r) r) (ev (Pg (fe l₀) (Ct b r) (Lt b r) r) n) m fi ⟨σ,ch,[]⟩)=some (fl,I',cs))(hc:jv cs)(h0:l₀.all (λf=>(oh.fn f).isSome)=true:=by decide)
  {A:Around} {x:Stmt} {s:Shared} {ρ:List Addr} {Q:Flow->Shared->Prop} {E:Value->Shared->Prop} (rm:ee A (n+1+r)) (en:dE env fi ρ) (ck:gI nmT env.scope m x) (R:(C b).R ρ σ s.heap)
  (q:∀ρ' s' N1,(C b).Rs ρ σ s ρ' I' s'->qR ρ' s'.heap fl N1->Q N1 s'):wpAny (C b).M A (exec x env) Q E s:=by
 obtain⟨⟨f,st⟩,e1,e2⟩:=aq.mp h;obtain⟨rfl,rfl,rfl⟩:f=fl/\st.os=I'/\st.cs=cs:=by simpa only[bc] using e2
 have X:=jQ (c:=C b) (r:=r) (orc:=fe l₀) G.X;have Y:=gO (c:=C b) (r:=r) G.F (dD G h0);obtain⟨he,ht,hs,_⟩:=gV X Y n;exact(ve X Y he ht hs _ _ _ _ _ e1 (gh hc)).2 A env x s ρ Q E rm en ck R (λI I e=>by cases e) q
theorem jf{b:Bs}{r n:Nat}{σ:List O}(G:dI b){m:ME}{v:V}(h:Option.map qD ((ev (Pg (fe l₀) (Ct b r) (Lt b r) r) n).e m fi ⟨σ,ch,[]⟩)=some (v,I',cs))(hc:jv cs)(h0:l₀.all (λf=>(oh.fn f).isSome)=true:=by decide)
  {A:Around} {x:Expr} {s:Shared} {ρ:List Addr} {Q E:Value->Shared->Prop} (rm:ee A (n+r)) (en:dE env fi ρ) (ck:dO nmT env.scope m x) (R:(C b).R ρ σ s.heap)
  (q:∀ρ' s' y,(C b).Rs ρ σ s ρ' I' s'->dH ρ' s'.heap v y->Q y s'):wpAny (C b).M A (eval x env) Q E s:=by
 obtain⟨⟨f,st⟩,e1,e2⟩:=aq.mp h;obtain⟨rfl,rfl,rfl⟩:f=v/\st.os=I'/\st.cs=cs:=by simpa only[bc] using e2
 have X:=jQ (c:=C b) (r:=r) (orc:=fe l₀) G.X;have Y:=gO (c:=C b) (r:=r) G.F (dD G h0);exact((gV X Y n).1 _ _ _ _ _ e1 (gh hc)).2 A env x s ρ Q E rm en ck R (λI I e=>by cases e) q
abbrev GP(q:Bool×St):Bool×List O×List Prop:=(q.1,q.2.os,q.2.cs)
theorem oB{b:Bs}{r n:Nat}{σ:List O}(G:dI b){m:ME}{v:Bool}(h:Option.map GP ((ev (Pg (fe l₀) (Ct b r) (Lt b r) r) n).t m fi ⟨σ,ch,[]⟩)=some (v,I',cs))(hc:jv cs)(h0:l₀.all (λf=>(oh.fn f).isSome)=true:=by decide)
  {A:Around} {x:Expr} {s:Shared} {ρ:List Addr} {Q:Bool->Shared->Prop} {E:Value->Shared->Prop} (rm:ee A (n+r)) (en:dE env fi ρ) (ck:dO nmT env.scope m x) (R:(C b).R ρ σ s.heap)
  (q:∀ρ' s',(C b).Rs ρ σ s ρ' I' s'->Q v s'):wpAny (C b).M A (PySem.isTrue x env (eval x env)) Q E s:=by
 obtain⟨⟨f,st⟩,e1,e2⟩:=aq.mp h;obtain⟨rfl,rfl,rfl⟩:f=v/\st.os=I'/\st.cs=cs:=by simpa only[bc] using e2
 have X:=jQ (c:=C b) (r:=r) (orc:=fe l₀) G.X;have Y:=gO (c:=C b) (r:=r) G.F (dD G h0);exact((gV X Y n).2.1 _ _ _ _ _ e1 (gh hc)).2 A env x s ρ Q E rm en ck R (λI I e=>by cases e) q
end
abbrev vE:Sk Stmt:=.raise (.call (.gS "SnobolError") (.l [.cst (.int 22),.cst (.str yA)]))
def JT(c:Cx):eW:=λhm fs a=>∃t d o mA tk,hm.get? a=some ⟨.ref 120,some d,.fields #[.ref t,.none,.none,.none,.bool false,.none],o⟩/\d≠a/\d∉fs/\hm.Ns d mA/\mA (c.nm dX)=some (.int 22 tk)
nonrec theorem tJ{A:Around}{env:Env}{ρ:List Addr}{σ:List O}{l:List Env}{Q:Flow->Shared->Prop}{E:Value->Shared->Prop}{fi:Nat}{x:Stmt}{{c:Cx}}(X:c.Ok)(F:XF c){s:Shared}(dp:A.depth+2<recursionLimit)(hh:A.handled=none)(en:dE env fi ρ)(ck:fE env.scope vE x)(R:c.R ρ σ s.heap)(fr:iZ c.h₀ l A ρ σ s.heap)(q:∀s' a,d9 c (JT c) l ρ σ s σ ρ a s'->E (.ref a) s'):wpAny c.M A (exec (bE vE x) env) Q E s:=by
 have hl:=ck.1;show wpAny c.M A (exec (.Raise (some (bE (.call (.gS "SnobolError") (.l [.cst (.int 22),.cst (.str yA)])) (sO x))) none (sQ x)) env) Q E s;obtain⟨xc,hC⟩:=F.cls;have inS:c.K.In s.heap:=X.X.keeps R.old;have g:=X.g.keeps R.old;rw[<-en.glob] at g;obtain⟨mN,n1,n2,n3,n4,n5⟩:=F.ns;obtain⟨fd,bd,KI,_⟩:=F.fn;obtain⟨oc,od,osl,hfI⟩:=KI.at_;have hfc:oc= .type "function":=F.fcls _ hfI;rw[arm_exec_Raise];refine aa (ba (vQ (C:=120) (xc:=xc) (N:=119) (bm:=Fk) (hdct:=true) (newId:="Exception.__new__") (by rfl) hh ?_));refine aa (aK (wpAny_Call_ofName (Name_function_global en.kind hl (loadGlobal_global g F.exc ?_) (by decide+kernel))) (λv s₃ h₃=>aa (ba (aE h₃))) λI I x=>x);unfold callWith;refine aa (aU (aK (Q:=λa s'=>a=⟨[.int 22 s.toks,.str yA (s.toks+1)],[]⟩/\s'={s with toks:=s.toks+1+1}) (cu (aF (aR (aF (cH (aN ⟨rfl,rfl⟩)))))) (λa s' h=>aa (ba ?_)) λI I x=>x));obtain⟨rfl,rfl⟩:=h;obtain⟨hp,gn,dr,tk,os⟩:=s;refine aa (wpAny_keeperOf_exc (inS _ _ hC) ?_);refine aa (wpAny_call_exc_init PySem.F.excBase_Exception (inS _ _ hC) (n1.keeps R.old) n2 (inS _ _ hfI) hfc λh' e hm=>?_);obtain⟨t,ht,tn,hT⟩:=hm.there;have fre:c.h₀.get? e=none:=by
  cases z:c.h₀.get? e with
  |none=>rfl
  |some o=>have:=R.old _ _ z;rw[show hp.get? e=none from hm.new] at this;cases this
 refine cR (Gv X F fre (λb o z=>hm.keeps _ _ (R.old b o z)) ?_ ht λh2 tk2 t2 d o mA kp e2 ne fd2 ns2 hv=>?_)
 .simp only[depth_under_make];omega
 refine⟨rfl,aa (aU (wpAny_point (aE ?_)))⟩;have kpA:∀b o,hp.get? b=some o->h2.get? b=some o:=λb o z=>kp b o (λy=>by subst y;rw[show hp.get? b=none from hm.new] at z;cases z) (hm.keeps _ _ z);have dn:hp.get? d=none:=by
  cases z:hp.get? d with
  |none=>rfl
  |some o=>have:=hm.keeps _ _ z;rw[fd2] at this;cases this
 refine⟨e,t2,some d,o,rfl,kpA _ _ (inS _ _ hC),e2,q _ e ⟨⟨h2,gn,dr,tk2,os⟩,l.filterMap (·.frame),.more0 R kpA rfl rfl,EL.start e2 rfl rfl,⟨t2,d,o,mA,_,e2,ne,λm=>?_,ns2,hv⟩,λb m=>m,?_,λb m y=>fr.ap b m y,λm=>?_,⟨rfl,rfl⟩,λb m=>.inl m,.inl hm.new⟩⟩
 .obtain⟨_,o,z,_⟩:=fr.ff.mem m
  rw[show hp.get? d=none from dn] at z;cases z
 .exact ja (λL I o e hn=>⟨o,kpA L o e,hn⟩) fr.ff
 .obtain⟨o,z⟩:=R.there m
  rw[show hp.get? e=none from hm.new] at z;cases z
theorem xl{c:Cx}(X:c.Ok){f:Addr}{ps:List Nm}{body:List MS}{fd:FuncData}{bd:List Stmt}(K:tO c f ps body fd bd){EI:eW}{n:Nat}{vs:List V}{os H':List O}{b:List (Nm×V)}(eb:qy ps vs=some b){g:Nat->Option Nat}{os'':List O}(T:dg c os.length g H' (·=os''))
  (H:∀(A:Around) (env:Env) (s:Shared) (ρ:List Addr) (l:List Env) (Q:Flow->Shared->Prop) (E:Value->Shared->Prop),ee A n->dE env os.length ρ->env.scope=fd.scope->c.R ρ (os++[.frame b]) s.heap->iZ c.h₀ l A ρ (os++[.frame b]) s.heap->PassesOwn c.M A env E->
   (∀ρ' s' a,d9 c EI l ρ (os++[.frame b]) s H' ρ' a s'->E (.ref a) s')->wpAny c.M A (execs bd env) Q E s):eU (c.at (n+1)) EI f vs os os'':=by
 intro A xs s ρ l E rm R0 ad fr vr q;have rm:ee A (n+1):=rm;have R0:c.R ρ os s.heap:=R0;obtain⟨oc,od,osl,hf⟩:=K.at_;have len:xs.length=ps.length:=by rw[vr.length,rF eb]
 have lim:s.heap.NoLimit:=X.lim.keeps R0.old;refine codeAny_call_def (by have:=rm.depth;omega) (X.In R0 _ _ hf) rfl lim (codeRec_of (X.In R0) K.code) K.fbody (K.bind _ (X.In R0) xs len) K.cell (λx m=>?_) (λh₀ hns kp=>?_) K.co K.gen K.kind
 .obtain⟨j,hj,e⟩:=List.mem_map.mp (cO m).1
  rw[<-e];exact K.loc j hj
 .have r0:c.Rs ρ os s (ρ++[s.heap.objs.size]) (os++[.frame b]) {s with heap:=h₀,toks:=s.toks+((ps.map c.nm).zip xs).length}:=by
   refine eR.pushC (o:=.frame b) R0 kp (λx m=>by cases aj.mp m;exact fA s) ⟨_,hns,λk v e=>?_⟩ rfl rfl ?_
   .obtain⟨x,e1,e2⟩:=oL X.inj eb vr K.nodup e
    exact⟨x,e1,e2.up (.app _ _) (.of_keeps kp)⟩
   .obtain⟨o,es,ep,ho,_⟩:=hns
    exact aZ (ay ho)
  have en:dE (callEnv fd s.heap.objs.size f) os.length (ρ++[s.heap.objs.size]):=⟨K.kind,by rw[<-R0.len];exact gr _ _,K.glob,K.blt⟩
  have fr':iZ c.h₀ (callEnv fd s.heap.objs.size f::l) (A.deeper (callEnv fd s.heap.objs.size f)) (ρ++[s.heap.objs.size]) (os++[.frame b]) h₀:=
   fr.push (env:=callEnv fd s.heap.objs.size f) r0.rel rfl K.kind R0.len kp (fA s)
  refine H (A.deeper _) _ _ _ (callEnv fd s.heap.objs.size f::l) _ _ ⟨?_,?_,rm.handled⟩ en rfl r0.rel fr' PassesOwn.leaving λρ1 s1 a x=>?_
  .show A.depth+1+n<recursionLimit
   have:=rm.depth;omega
  .show A.units+3+8*n<cLine
   have:=rm.units;omega
  .have x0:d9 c EI _ ρ os s H' ρ1 a s1:=x.after r0
   obtain⟨ρ1,σ4,rfl,x⟩:=x0.tell T (ao _) R0.len;exact x.leave fr'.fr rfl (.inl (fA s)) λs2 x2=>q ρ1 s2 a x2
abbrev u1:Sk (List Stmt):=.l [.any,.if_ .any (.l [vE]) .any]
def oY(c:Cx):Prop:=∃fd bd,tO c 573 [cV] gi fd bd/\Fj fd.scope u1 bd=true
section
variable(sp:jC) (sl:jz) (r:Nat)
abbrev HP(lim st:Int)(R V0 L:O):List O:=[R,.inst 576 [(gw,.obj 2),(dK,.int true lim),(fS,.obj 3),(gL,.int true st),(eP,.obj 4)],V0,.list true [],L,.frame [(cV,.obj 1)]]
theorem Gy(lim st:Int)(R V0 L:O):Option.map pT (jk (Pg (fe []) sp sl r) (ev (Pg (fe []) sp sl r) 8) (lR gi 0) 5 ⟨HP lim st R V0 L,[],[]⟩)=some (.next,HP lim (st+1) R V0 L,[]):=by
 walk_at"k"
theorem Gu(lim st:Int)(R V0 L:O):Option.map GP ((ev (Pg (fe []) sp sl r) 8).t (.cmp .Gt (.attr (.loc cV) gL) (.attr (.loc cV) dK)) 5 ⟨HP lim st R V0 L,[.b true],[]⟩)=some (true,HP lim st R V0 L,[decide (lim<st)=true]):=by
 walk_at"k"
end
theorem DL{b:Bs}(G:dI b)(F:XF (C b))(S:oY (C b)):im b (JT (C b)):=by
 intro lim st lg h1 h2;obtain⟨fd,bd,K,ck⟩:=S;obtain⟨l,rfl,cl⟩:∃l,bd=bE u1 l/\fE fd.scope u1 l:=⟨_,qE ck⟩
 have cy:=cl.2.1.2.1.1;have c1:gI (C b).nm fd.scope (lR gi 0) (J4 l):=(cW (cW K.chk).1).2;have k1:dO (C b).nm fd.scope (.cmp .Gt (.attr (.loc cV) gL) (.attr (.loc cV) dK)) (sT (J4 l.tail))=true:=(cW (cW (cW (cW (cW (cW K.chk).2).1).2).1).1).2;have T:dg (C b) 5 (fb [0,1,2,3,4]) (HP (lim:Int) ((st:Int)+1) cY (valO lg) (dz lg)) (·=[cY,dG lim (st+1),valO lg,.list true [],dz lg]):=
  dg.sel (I':=[cY,dG lim (st+1),valO lg,.list true [],dz lg]) rfl () (fj rfl) (.k .ref (.k (.host rfl rfl rfl) (.k (.valO lg) (.k (.l .z) (.k (.log lg) .z)))))
 refine xl G.X K (n:=39) (H':=HP (lim:Int) ((st:Int)+1) cY (valO lg) (dz lg)) (b:=[(cV,.obj 1)]) rfl T λA env s ρ l Q E rm en sc R fr pe q=>?_;have R:(C b).R ρ (HP (lim:Int) (st:Int) cY (valO lg) (dz lg)) s.heap:=R;have fr:iZ (C b).h₀ l A ρ (HP (lim:Int) (st:Int) cY (valO lg) (dz lg)) s.heap:=fr;refine ak (jJ G (Gy _ _ 0 _ _ _ _ _) trivial rfl (rm.less ()) en (by rw[sc];exact c1) R λρ1 s1 N1 r1 v1=>?_);cases v1;refine ak (wpAny_If (oB G (Gu _ _ 0 _ _ _ _ _) ⟨av (by omega),N4⟩ rfl (rm.less ()) (en.grow r1.grow) (by rw[sc];exact k1) r1.rel λρ2 s2 r2=>?_));rw[if_pos rfl];refine ak (tJ G.X F (by have:=rm.depth;omega) rm.handled (en.grow (r1.trans r2).grow) (by rw[sc];exact cy) r2.rel (fr.res (r1.trans r2)) λs3 a x=>?_);exact q ρ2 s3 a (x.after (r1.trans r2))
nonrec theorem xE{A:Around}{E:Value->Shared->Prop}{h:Heap}{g:Array GenState}{d:Drawn}{t:Nat}{os:OsState}{xc:zg}{C N:Addr}{newId:String}{M:Model}{a:Addr}{o:Obj}{nameV:Value}{Q:Unit->Shared->Prop}(hC:h.get? C=some (xc.o C N Fk true newId))(hx:h.get? a=some o)(hc:o.cls= .ref C)(hq:Q Unit.unit ⟨h,g,d,t,os⟩):
  wpAny M A (checkBuiltinCall "BaseException.__getattribute__" ⟨[.ref a,nameV],[]⟩) Q E ⟨h,g,d,t,os⟩:=by
 have hk:builtinKind "BaseException.__getattribute__"=some .slot:=by decide+kernel
 have hs:splitId "BaseException.__getattribute__"=some ("BaseException","__getattribute__"):=by decide+kernel
 have hb:(Value.ref C::Fk).contains (.type "BaseException")=true:=by rw[List.contains_cons];rfl
 have ha:=PySem.F.args_bexc_ga (.ref a) nameV;simp only[checkBuiltinCall,hk,hs];refine aa ?_;unfold isInstance
 repeat (first | (with_reducible refine bf hx ?_;rw[hc]) | (with_reducible refine wpAny_isSubtype_exc hC ?_;rw[hb]) | wp_step)
 exact hq
section
variable{name:Str} {newId:String}
theorem FY{es:Array DictEntry}{v:Value}(q:nsFind es name=some v):∃e,es.find? (λx=>x.key.isStr name)=some e/\v=e.val:=by
 unfold nsFind findBy at q;cases z:es.find? (λx=>x.key.isStr name) with
 |none=>rw[z] at q;cases q
 |some e=>rw[z] at q;exact⟨e,rfl,(ac q).symm⟩
theorem tI{prog:Program}{w:World}{A:Around}{E:Value->Shared->Prop}{h:Heap}{g:Array GenState}{d:Drawn}{t:Nat}{os:OsState}{xc:zg}{C N:Addr}{a:Addr}{vs:Array Value}{sl:Array (Option Value)}{dx:Addr}{tk:Tok}{v:Value}{mN mA:Str->Option Value}{Q:Fin->Shared->Prop}(hC:h.get? C=some (xc.o C N Fk true newId))(hn:h.Ns N mN)(hna:mN name=none)
  (hB:typeLookup (.type "Exception") name=pure none) (hx:h.get? a=some ⟨.ref C,some dx,.fields vs,sl⟩) (hns:h.Ns dx mA) (hv:mA name=some v) (hq:Q (.done (.ret v)) ⟨h,g,d,t,os⟩):
  wpAny (model prog w) A (Builtin.«object.__getattribute__» ⟨[.ref a,.str name tk],[]⟩) Q E ⟨h,g,d,t,os⟩:=by
 unfold Builtin.«object.__getattribute__»
 repeat (first | (with_reducible refine bf hx ?_) | (with_reducible refine cI hC hn PySem.F.excBase_Exception.mroIs hB ?_;rw[hna]) | wp_step)
 obtain⟨oD,es,ep,e1,e2,e3,e4⟩:=hns;refine bf e1 ?_;obtain⟨e,z,ev⟩:=FY ((e4 name).trans hv);rw[nsLook_eq];unfold nsLookByArray;rw[e2];dsimp only;rw[z]
 repeat (first | wp_step)
 exact ev▸hq
theorem vF{prog:Program}{w:World}{A:Around}{E:Value->Shared->Prop}{h:Heap}{g:Array GenState}{d:Drawn}{t:Nat}{os:OsState}{xc:zg}{C N:Addr}{a:Addr}{vs:Array Value}{sl:Array (Option Value)}{dx:Addr}{v:Value}{mN mA:Str->Option Value}{expr:Bool}{Q:Value->Shared->Prop}(hC:h.get? C=some (xc.o C N Fk true newId))(hn:h.Ns N mN)(hna:mN name=none)
  (hg1:mN "__getattribute__"=none) (hg2:mN "__getattr__"=none) (hB:typeLookup (.type "Exception") name=pure none) (hx:h.get? a=some ⟨.ref C,some dx,.fields vs,sl⟩) (hns:h.Ns dx mA) (hv:mA name=some v) (hh:handedOut v=pure v) (hq:Q v ⟨h,g,d,t+1,os⟩):
  wpAny (model prog w) A (getAttr (.ref a) name expr) Q E ⟨h,g,d,t,os⟩:=by
 have f3:=PySem.F.attr_Exception.ga.bind (.ref a);have hx0:(expr&&onTheHeap (Value.builtin "BaseException.__getattribute__"))=false:=by cases expr<;>rfl
 have hx2:(Value.builtin "BaseException.__getattribute__"==Value.builtin "object.__getattribute__")=false:=by decide+kernel
 have hx1:(onTheHeap (Value.ref C)&&Value.builtin "BaseException.__getattribute__"==Value.builtin "object.__getattribute__")=false:=by rw[hx2];rfl
 unfold getAttr getAttrBy
 repeat (any_goals (first | assumption | (with_reducible refine bf hx ?_) | (with_reducible refine cI hC hn PySem.F.excBase_Exception.mroIs PySem.F.attr_Exception.ga.lookup ?_;rw[hg1]) | (with_reducible refine cI hC hn PySem.F.excBase_Exception.mroIs PySem.F.attrBase_Exception.noGetattr ?_;rw[hg2]) | wp_step))
 refine codeAny_call_builtin PySem.F.attr_Exception.ga.plain PySem.F.entry_bexc_ga (xE hC hx rfl (tI hC hn hna hB hx hns hv ?_));show wpAny _ _ (handedOut v) _ _ _;rw[hh];exact aE hq
end
section
variable{A:Around} {E:Value->Shared->Prop} {s s':Shared} {a:Addr} {Q:Unit->Shared->Prop} {EI:eW} {ρ':List Addr} {σ':List O}
theorem Ce{M:Model}{base hm:Heap}{fs:List Addr}{env:Env}{outer:List Env}{L:Addr}
  (hfr:A.frames=some (env::outer)) (hl:hm.FunFrames base (env::outer)) (hf:env.frame=some L) (hin:∀b∈(env::outer).filterMap (·.frame),b∈fs)
  (F:EL hm fs a s.heap) (h:∀h',EL hm fs a h'->Q Unit.unit {s with heap:=h'}):wpAny M A (noteFrame (.ref a) env) (λI s'=>wpAny M A (setFlight (.ref a) none) Q E s') E s:=by
 obtain⟨h1,h2,oe,vs,vs',e0,hd,e1,hz,hT⟩:=F;unfold noteFrame;simp only[hf];rcases hT with h3 | ⟨T,oT,ts,h3,hn,eT,dT,h4⟩
 .refine aa (cD e1 rfl h3 ?_)
  rw[if_neg ()];exact mW hfr hl hf hin h1 h2 e0 hd e1 hz h
 .refine aa (cD e1 rfl h3 ?_)
  rw[if_pos (show(Value.ref T != Value.none)=true from by simp)];refine aa (cD eT dT h4 ?_);rw[if_neg (show¬((Value.none==rawInt L)=true) from by simp [rawInt])];refine aa (wpAny_setField eT dT (bT.mp h4).1 ?_);have ne:∀b o,hm.get? b=some o->T≠b:=λb o e z=>by subst z;rw[hn] at e;cases e
  refine mW (vs':=vs') hfr hl hf hin (λb o e m hb=>?_) (λb o e hb=>?_) e0 hd ?_ hz h
  .exact(aL _ _ (ne b o e)).trans (h1 b o e m hb)
  .obtain⟨sl,q⟩:=h2 b o e hb
   exact⟨sl,(aL _ _ (ne b o e)).trans q⟩
  .exact(aL _ _ (ne a oe e0)).trans e1
theorem tT{M:Model}{hm:Heap}{fs:List Addr}(F:EL hm fs a s.heap)(h:∀h',EL hm fs a h'->Q Unit.unit {s with heap:=h'}):wpAny M A (setFlight (.ref a) none) Q E s:=by
 have F':=F;obtain⟨h1,h2,oe,vs,vs',e0,hd,e1,hz,hT⟩:=F;unfold setFlight;rcases hT with h3 | ⟨T,oT,ts,h3,hn,eT,dT,h4⟩
 .refine aa (cD e1 rfl h3 ?_)
  rw[if_neg ()];exact aE (h _ F')
 .refine aa (cD e1 rfl h3 ?_)
  rw[if_pos (show(Value.ref T != Value.none)=true from by simp)];refine wpAny_setField eT dT (bT.mp h4).1 (h _ ?_);have ne:∀b o,hm.get? b=some o->T≠b:=λb o e z=>by subst z;rw[hn] at e;cases e
  refine⟨λb o e m hb=>?_,λb o e hb=>?_,oe,vs,vs',e0,hd,?_,hz,.inr ⟨T,_,ts.setIfInBounds 3 .none,h3,hn,bM _ eT (Obj.isFreed_of_fields (Obj.data_mapFields dT _)),Obj.data_mapFields dT _,?_⟩⟩
  .exact(aL _ _ (ne b o e)).trans (h1 b o e m hb)
  .obtain⟨sl,q⟩:=h2 b o e hb
   exact⟨sl,(aL _ _ (ne b o e)).trans q⟩
  .exact(aL _ _ (ne a oe e0)).trans e1
  .rw[Array.getElem?_setIfInBounds_self_of_lt (bT.mp h4).1]
theorem d9.noted{c:Cx}{l:List Env}{ρ:List Addr}{σ:List O}{env:Env}{L:Addr}(x:d9 c EI (env::l) ρ σ s σ' ρ' a s')(hfr:A.frames=some (env::l))(hf:env.frame=some L)
  (q:∀s'',d9 c EI (env::l) ρ σ s σ' ρ' a s''->Q Unit.unit s''):wpAny c.M A (noteFrame (.ref a) env) (λI s1=>wpAny c.M A (setFlight (.ref a) none) Q E s1) E s':=by
 obtain⟨sm,fs,h1,h2,h3,h4,h5,h6,h7,h8,h9,h10⟩:=x;exact Ce hfr h5 hf h4 h2 λh' F=>q _ ⟨sm,fs,h1,F,h3,h4,h5,h6,h7,h8,h9,h10⟩
theorem d9.flight{c:Cx}{l:List Env}{ρ:List Addr}{σ:List O}(x:d9 c EI l ρ σ s σ' ρ' a s')(q:∀s'',d9 c EI l ρ σ s σ' ρ' a s''->Q Unit.unit s''):wpAny c.M A (setFlight (.ref a) none) Q E s':=by
 obtain⟨sm,fs,h1,h2,h3,h4,h5,h6,h7,h8,h9,h10⟩:=x;exact tT h2 λh' F=>q _ ⟨sm,fs,h1,F,h3,h4,h5,h6,h7,h8,h9,h10⟩
theorem d9.rs{c:Cx}{l:List Env}{ρ:List Addr}{σ:List O}(R0:c.R ρ σ s.heap)(hl:∀L∈l.filterMap (·.frame),L∈dA ρ σ)(x:d9 c EI l ρ σ s σ' ρ' a s'):c.Rs ρ σ s ρ' σ' s':=by
 obtain⟨sm,fs,r,F,ei,h4,h5,h6,h7,⟨g1,g2⟩,h9,h10⟩:=x;have inF:∀b∈fs,s.heap.get? b=none\/b∈dA ρ σ:=λb m=>(h9 b m).elim (λz=>.inr (hl b z)) id;have notB:∀b o,s.heap.get? b=some o->b∉dA ρ σ->b∉fs/\b≠a:=λb o e m=>by
  refine⟨λz=>?_,λz=>?_⟩
  .rcases inF b z with q | q
   .rw[q] at e;cases e
   .exact m q
  .subst z
   rcases h10 with q | q
   .rw[q] at e;cases e
   .exact m q
 have oldB:∀b o,c.h₀.get? b=some o->b∉fs/\b≠a:=λb o e=>by
  refine notB b o (R0.old b o e) λm=>?_;rw[R0.new b m] at e;cases e
 have offF:∀i b o,nth ρ' i=some b->nth σ' i=some o->∀y∈foot b o,y∈fs->∃m,o= .frame m/\y=b:=λi b o e1 e2 y my mf=>by
  obtain⟨j,m,e3,e4⟩:=h6 y mf (dC.mpr ⟨i,b,o,e1,e2,my⟩)
  by_cases z:i=j
  .subst z
   rw[e1] at e3;cases e3;rw[e2] at e4;cases e4;exact⟨m,rfl,rfl⟩
  .exact absurd (.head _) (r.rel.apart i j b y o (.frame m) e1 e2 e3 e4 z y my)
 have tk:fU sm.heap s'.heap:=λt z' ⟨o,e,hc,n,hd⟩=>by
  by_cases z:t=a
  .subst z
   obtain⟨oe,vs,_,e0,hv,_⟩:=F.exc;rw[e] at e0;cases e0;rw[hd] at hv;cases hv
  .obtain⟨sl,q⟩:=F.slots t o e z
   exact⟨_,q,hc,n,hd⟩
 have rel:c.R ρ' σ' s'.heap:=by
  refine⟨r.rel.len,λi b o e1 e2=>?_,r.rel.apart,r.rel.new,λb o e=>?_⟩
  .have rp:=r.rel.rep i b o e1 e2
   have na:∀y∈foot b o,y≠a:=λy my z=>h7 (z▸dC.mpr ⟨i,b,o,e1,e2,my⟩)
   by_cases z:∃m,o= .frame m
   .obtain⟨m,rfl⟩:=z
    obtain⟨mp,⟨o',es,ep,ho,hd,u'⟩,w⟩:=rp;obtain⟨sl,q⟩:=F.slots b o' ho (na b (.head _));exact⟨mp,⟨_,es,ep,q,hd,u'⟩,λn v e=>by obtain⟨x,a1,a2⟩:=w n v e;exact⟨x,a1,a2.up (.refl _) tk⟩⟩
   .exact rp.up (.refl _) tk λy my ob eb=>F.same y ob eb (λmf=>z (by obtain⟨m,e,_⟩:=offF i b o e1 e2 y my mf;exact⟨m,e⟩)) (na y my)
  .obtain⟨z1,z2⟩:=oldB b o e
   exact F.same b o (r.rel.old b o e) z1 z2
 refine⟨r.grow,rel,λb o e m=>?_,r.fresh,g1.trans r.gens,g2.trans r.os,r.frm⟩;obtain⟨z1,z2⟩:=notB b o e m;exact F.same b o (r.keep b o e m) z1 z2
end
theorem xK{α:Type}(l r:List α):nth (l++r) l.length=nth r 0:=by simpa using jT l r 0
theorem mO{α:Type}(l r:List α):nth (l++r) (l.length+1)=nth r 1:=jT l r 1
theorem ug{α:Type}:∀(l:List α) (a b x:α),setN (l++[a,b]) l.length x=l++[x,b]
 |[],_,_,_=>rfl
 |y::l,a,b,x=>az (y::·) (ug l a b x)
theorem qz{α:Type}:∀(l:List α) (a b x:α),setN (l++[a,b]) (l.length+1) x=l++[a,x]
 |[],_,_,_=>rfl
 |y::l,a,b,x=>az (y::·) (qz l a b x)
theorem Gn{c:Cx}{A:Around}{E:Value->Shared->Prop}{s:Shared}{Q:Value->Shared->Prop}{N2:qX}{ge:Addr}{j:Nat}{ρ:List Addr}(x:jF N2 ge j ρ s.heap)(q:Q (.ref ge) s):wpAny c.M A (pyIter (.ref ge)) Q E s:=by
 cases N2 with
 |lst i xs=>
  obtain⟨a,_,hit⟩:=x;exact wpAny_pyIter_listiter hit q
 |rng n=>exact wpAny_pyIter_rangeiter x q
theorem om.app{N2:qX}{σ:List O}(r:List O)(h:om N2 σ):om N2 (σ++r):=by
 cases N2 with
 |lst i xs=>obtain⟨y,e⟩:=h;exact⟨y,jE _ e⟩
 |rng n=>exact h
nonrec theorem Co{c:Cx}{R:Result->Shared->Prop}{A:Around}{elt target iter:Expr}{scope:Scope}{pos:Pos}{it B':Value}{env:Env}{s:Shared}(ge:Nat->Shared->Prop)(turn:∀n s,ge n s->wpAny c.M A (pyNext it) (λr s₁=>match r with
   |none=>R (.ok .next) s₁
   |some v=>wpAny c.M A (letOwnedTupleGo target it v) (λI s₀=>wpAny c.M A (assign target env v) (λI s₂=>wpAny c.M A (eval elt env) (λx s₃=>
     wpAny c.M A (call (.builtin "list.append") [B',x]) (λI s₄=>∃m,m<n/\ge m s₄) (notedBy c.M A env λe s'=>R (.error e) s') s₃)
     (notedBy c.M A env λe s'=>R (.error e) s') s₂) (notedBy c.M A env λe s'=>R (.error e) s') s₀) (notedBy c.M A env λe s'=>R (.error e) s') s₁) (notedBy c.M A env λe s'=>R (.error e) s') s) (n:Nat) (h:ge n s):codeAny c.M A (.compLoop (.ListComp elt [⟨target,iter,[],0⟩] scope pos) 0 it B' env) R s:=by
 refine codeAny_loop rfl ge (λn s hI=>?_) n h;show wpAny _ _ ((compTurn (.ListComp elt [⟨target,iter,[],0⟩] scope pos) 0 it B' env).onRaise (λx=>do noteFrame x env;theTreesLotGoes x)) _ _ s;refine wpAny_noted ?_;rw[compTurn_list1];refine aa (ba (aa (aK (turn n s hI) (λr s₁ h₁=>?_) λI I h'=>h')));cases r with
 |none=>exact aE h₁
 |some v=>
  refine aa (aK h₁ (λI s₀ h₀=>?_) λI I h'=>h');exact aa (aK h₀ (λI s₂ h₂=>aa (aa (aK h₂ (λx s₃ h₃=>aa (aK h₃ (λI s₄ h₄=>aE (aE ⟨rfl,h₄⟩)) λI I h'=>h')) λI I h'=>h'))) λI I h'=>h')
nonrec theorem us{c:Cx}{elt target iter:Expr}{scope:Scope}{cl:List (Str×Addr)}{pos:Pos}{env:Env}{A:Around}{E:Value->Shared->Prop}{s₀ s₂:Shared}{ge:Addr}{ρ9 ρ:List Addr}{σ0 σ:List O}{RR:Value->Addr->Result->Shared->Prop}(X:c.Ok){N2:qX}(hh:A.handled=none)(hlet:∀vv v Ia j ρ' (s:Shared) (Q:Unit->Shared->Prop) E',N2.at j=some vv->dH ρ' s.heap vv v->jF N2 Ia (j+1) ρ' s.heap->Q Unit.unit s->wpAny c.M A (letOwnedTupleGo target (.ref Ia) v) Q E' s)(hcell:∀y∈scope.names,y.2≠ .cell)(hkind:scope.kind= .function)(R0:c.R ρ9 σ0 s₀.heap)(rb:c.Rs ρ9 σ0 s₀ ρ σ s₂)(hI:jF N2 ge 0 ρ s₂.heap)(nI:ge∉dA ρ σ)(f0:s₀.heap.get? ge=none\/ge∈dA ρ9 σ0)(J:Nat->List O->List V->Prop)(h0:J 0 σ [])(hJ:∀j τ vs,J j τ vs->vs.length<=1000/\om N2 τ)(turn:∀j τ vs v C (s:Shared) ρ' y E',J j τ vs->N2.at j=some v->τ.length=σ.length->c.Rs ρ9 σ0 s₀ ρ' (τ++[.list true vs,.frame []]) s->nth ρ' (σ.length+1)=some C->dH ρ' s.heap v y->
   wpAny c.M A (assign target (compEnvC scope cl C env) y) (λI s1=>wpAny c.M A (eval elt (compEnvC scope cl C env)) (λz s3=>∃ρ3 τ' w fr,c.Rs ρ' (τ++[.list true vs,.frame []]) s ρ3 (τ'++[.list true vs,.frame fr]) s3/\τ'.length=σ.length/\dH ρ3 s3.heap w z/\J (j+1) τ' (vs++[w])) E' s1) E' s) (hRR:∀ρ' s' τ vs D C,J N2.len τ vs->τ.length=σ.length->c.Rs ρ9 σ0 s₀ ρ' (τ++[.list true vs,.frame []]) s'->nth ρ' σ.length=some D->nth ρ' (σ.length+1)=some C->RR (.ref D) C (.ok .next) s'):wpAny c.M A (newList []) (λB' s₃=>wpAny c.M A (newFunctionEnv scope env.globals cl [] env.qual none .none (some env)) (λcenv s₄=>
   codeAny c.M A (.compStart (.ListComp elt [⟨target,iter,[],0⟩] scope pos) 0 (.ref ge) B' {cenv with scope:=relabel scope env}) (RR B' cenv.locals) s₄) E s₃) E s₂:=by
 have R:=rb.rel;refine wpAny_newObj_type (wpAny_newFunctionEnv hcell (by intro y hy;simp at hy) (λh₁ hns1 hsb1=>?_) hkind);dsimp only at hns1 hsb1 ⊢;generalize hH2:s₂.heap.push {cls:=.type "list",dict:=none,data:=.seq ([]:List Value).toArray}=H2 at hns1 hsb1 ⊢;have fD:s₂.heap.get? s₂.heap.objs.size=none:=fA s₂;have kD:∀b o,s₂.heap.get? b=some o->H2.get? b=some o:=λb o e=>by rw[<-hH2];exact ae _ e
 have gD:H2.get? s₂.heap.objs.size=some (fw [] 0):=by rw[<-hH2];exact aB _ rfl
 have fC:H2.get? H2.objs.size=none:=fA {s₂ with heap:=H2};have kC:∀b o,H2.get? b=some o->h₁.get? b=some o:=λb o e=>hsb1.extBut b o (bG (ay e)) (ae _ e);have r1:c.Rs ρ σ s₂ (ρ++[s₂.heap.objs.size]) (σ++[.list true []]) {s₂ with heap:=H2}:=
  eR.pushC (o:=.list true []) R kD (λx m=>by cases aj.mp m;exact fD) ⟨[],0,gD,rfl⟩ rfl rfl (by rw[<-hH2,bB];exact au _)
 have r2:c.Rs (ρ++[s₂.heap.objs.size]) (σ++[.list true []]) {s₂ with heap:=H2} (ρ++[s₂.heap.objs.size]++[H2.objs.size]) (σ++[.list true []]++[.frame []]) {s₂ with heap:=h₁,toks:=s₂.toks+([]:List (Str×Value)).length}:=
  eR.pushC (o:=.frame []) r1.rel kC (λx m=>by cases aj.mp m;exact fC) ⟨_,hns1,λn v e=>by cases e⟩ rfl rfl (by
   obtain⟨o,_,_,e,_⟩:=hns1;exact aZ (ay e))
 have r12:c.Rs ρ σ s₂ (ρ++[s₂.heap.objs.size,H2.objs.size]) (σ++[.list true [],.frame []]) {s₂ with heap:=h₁,toks:=s₂.toks+([]:List (Str×Value)).length}:=by
  have:=r1.trans r2
  rwa [aw,aw] at this
 have x0:=hI.res (c:=c) r12 nI;have nD:nth (ρ++[s₂.heap.objs.size,H2.objs.size]) σ.length=some s₂.heap.objs.size:=by rw[<-R.len];exact xK _ _
 have nC:nth (ρ++[s₂.heap.objs.size,H2.objs.size]) (σ.length+1)=some H2.objs.size:=by rw[<-R.len];exact mO _ _
 have loop:∀s₃:Shared,s₃={s₂ with heap:=h₁,toks:=s₂.toks+([]:List (Str×Value)).length}->
   codeAny c.M A (.compLoop (.ListComp elt [⟨target,iter,[],0⟩] scope pos) 0 (.ref ge) (.ref s₂.heap.objs.size) (compEnvC scope cl H2.objs.size env)) (RR (.ref s₂.heap.objs.size) H2.objs.size) s₃:=by
  rintro s₃ rfl;refine Co (c:=c) (λm s'=>∃j ρ' τ vs,m=N2.len - j/\j<=N2.len/\J j τ vs/\τ.length=σ.length/\c.Rs ρ9 σ0 s₀ ρ' (τ++[.list true vs,.frame []]) s'/\jF N2 ge j ρ' s'.heap/\ge∉dA ρ' (τ++[.list true vs,.frame []])/\
   nth ρ' σ.length=some s₂.heap.objs.size/\nth ρ' (σ.length+1)=some H2.objs.size) (λm s' hm=>?_) N2.len ⟨0,_,σ,[],by omega,by omega,h0,rfl,rb.trans r12,x0.1,x0.2,nD,nC⟩
  obtain⟨j,ρ1,τ,vs,em,hj,jj,hl,r,x1,n1,eD,eC⟩:=hm;rw[em];obtain⟨oI,hoI,hnI⟩:=x1.obj;obtain⟨hz,hs⟩:=hJ _ _ _ jj;cases hv:N2.at j with
  |none=>
   have hj':=vX hv hj;refine yf hh r.rel (hs.app _) x1 hv hj λh' kp=>?_;exact hRR ρ1 _ τ vs _ _ (hj'▸jj) hl (r.off R0 hoI hnI n1 f0 kp rfl rfl) eD eC
  |some v=>
   have hlt:=sL hv;refine uY r.rel (hs.app _) x1 hv λy h' tk vy x2 kp=>?_;have r2:c.Rs ρ9 σ0 s₀ ρ1 (τ++[.list true vs,.frame []]) {s' with heap:=h',toks:=tk}:=r.off R0 hoI hnI n1 f0 kp rfl rfl;refine hlet v y ge j ρ1 _ _ _ hv vy x2 ?_;refine aK (turn j τ vs v H2.objs.size _ ρ1 y _ jj hv hl r2 eC vy) (λI s1 k1=>aK k1 (λz s3 k3=>?_) λI I e=>e) λI I e=>e;obtain⟨ρ3,τ',w,fr,r3,hl',vw,jj'⟩:=k3;have lD:nth (τ'++[.list true vs,.frame fr]) σ.length=some (.list true vs):=by rw[<-hl'];exact xK _ _
   have lC:nth (τ'++[.list true vs,.frame fr]) (σ.length+1)=some (.frame fr):=by rw[<-hl'];exact mO _ _
   have eD3:=r3.grow _ _ eD;have eC3:=r3.grow _ _ eC;obtain⟨z',n,ho,zv⟩:=r3.rel.at eD3 lD;have big:=dv;refine qW ho (by rw[zv.length];omega) λh4 n4 sb e4=>?_;have tk4:=r3.rel.tkBut eD3 lD rfl sb;have r4:=eR.setL r3.rel eD3 lD (o':=.list true (vs++[w])) rfl rfl sb ⟨z'++[z],n4,e4,(zv.up (.refl _) tk4).app (.cons (vw.up (.refl _) tk4) .nil)⟩;have e5:setN (τ'++[.list true vs,.frame fr]) σ.length (.list true (vs++[w]))=τ'++[.list true (vs++[w]),.frame fr]:=by rw[<-hl'];exact ug _ _ _ _
   rw[e5] at r4;have lC4:nth (τ'++[.list true (vs++[w]),.frame fr]) (σ.length+1)=some (.frame fr):=by rw[<-hl'];exact mO _ _
   obtain⟨mp,hmp,_⟩:=r4.rel.at eC3 lC4;have r5:=eR.setC (s':={s3 with heap:=h4}) r4.rel eC3 lC4 (o':=.frame []) rfl (λb x e I=>e) ⟨mp,hmp,λI I e=>by cases e⟩ rfl rfl (ao _);rw[<-hl',qz] at r5;have r6:c.Rs ρ9 σ0 s₀ ρ3 (τ'++[.list true (vs++[w]),.frame []]) {s3 with heap:=h4}:=((r2.trans r3).trans r4).trans r5;have r26:c.Rs ρ1 (τ++[.list true vs,.frame []]) {s' with heap:=h',toks:=tk} ρ3 (τ'++[.list true (vs++[w]),.frame []]) {s3 with heap:=h4}:=(r3.trans r4).trans r5;have x6:=x2.res (c:=c) r26 n1;exact⟨N2.len - (j+1),cL hlt (aX j),j+1,ρ3,τ',vs++[w],rfl,hlt,jj',hl',r6,x6.1,x6.2,eD3,eC3⟩
 exact codeAny_compStart_list (loop _ rfl) (Gn x0.1 (loop _ rfl))
theorem eR.off2{nm:Nat->Str}{P:PW}{h₀:Heap}{ρ9 ρ:List Addr}{σ0 σ:List O}{s₀ s s':Shared}{ge:Addr}(r:eR nm P h₀ ρ9 σ0 s₀ ρ σ s)(R2:kB nm P h₀ ρ9 σ0 s₀.heap)(nt:∀z',¬IsTup s.heap ge z')(hI:ge∉dA ρ σ)(h0:s₀.heap.get? ge=none\/ge∈dA ρ9 σ0)
  (k:∀b o,b≠ge->s.heap.get? b=some o->s'.heap.get? b=some o) (hg:s'.gens=s.gens) (ho:s'.os=s.os):eR nm P h₀ ρ9 σ0 s₀ ρ σ s':=by
 have hb:h₀.get? ge=none:=by
  cases q:h₀.get? ge with
  |none=>rfl
  |some x=>
   rcases h0 with h0 | h0
   .have:=R2.old ge x q;rw[h0] at this;cases this
   .have:=R2.new ge h0;rw[q] at this;cases this
 have tk:fU s.heap s'.heap:=λa z' t=>by
  obtain⟨o,ho,hc,n,hd⟩:=t;exact⟨o,k a o (λz=>nt z' (z▸⟨o,ho,hc,n,hd⟩)) ho,hc,n,hd⟩
 refine⟨r.grow,⟨r.rel.len,λi a q e1 e2=>(r.rel.rep i a q e1 e2).up (.refl _) tk λb m x ex=>k b x (λz=>hI (z▸dC.mpr ⟨i,a,q,e1,e2,m⟩)) ex,r.rel.apart,r.rel.new,λb x ex=>k b x (λz=>?_) (r.rel.old b x ex)⟩,λb x ex m=>k b x (λz=>?_) (r.keep b x ex m),r.fresh,hg.trans r.gens,ho.trans r.os,r.frm⟩
 .subst z;rw[hb] at ex;cases ex
 .subst z
  rcases h0 with h0 | h0
  .rw[h0] at ex;cases ex
  .exact m h0
theorem qO{c:Cx}{ρ9 ρ':List Addr}{σ0 τ:List O}{s₀ s':Shared}{vs:List V}{C D:Addr}{g:Nat->Option Nat}(R0:c.R ρ9 σ0 s₀.heap)(hlen:σ0.length<=τ.length)(r:c.Rs ρ9 σ0 s₀ ρ' (τ++[.list true vs,.frame []]) s')(eD:nth ρ' τ.length=some D)(eC:nth ρ' (τ.length+1)=some C)
  (T:dg c (τ.length+1) g (τ++[.list true vs,.frame []]) (·=τ++[.list true vs])):(∃m,s'.heap.Ns C m)/\∀h',Heap.SameBut C s'.heap h'->∃ρ2,c.Rs ρ9 σ0 s₀ ρ2 (τ++[.list true vs]) {s' with heap:=h'}/\nth ρ2 τ.length=some D:=by
 have lC:nth (τ++[.list true vs,.frame []]) (τ.length+1)=some (.frame []):=mO _ _;obtain⟨mp,hmp,_⟩:=r.rel.at eC lC;refine⟨⟨mp,hmp⟩,λh' sb=>?_⟩;obtain⟨ρ2,σ2,rfl,r2,_,keep,ft,_⟩:=eR.tell (c:=c) r T (by omega) R0.len;have mC:C∈dA ρ' (τ++[.list true vs,.frame []]):=dC.mpr ⟨_,_,_,eC,lC,.head _⟩;refine⟨ρ2,eR.off2 r2 R0 (λz'=>r.rel.notTup mC z') (λm=>?_) (r.fresh C mC).symm (λb o hb e=>by rw[sb.2 b hb];exact e) rfl rfl,keep _ _ (aX _) eD⟩;obtain⟨i,a,o,e1,e2,m⟩:=dC.mp m;have hi:i<τ.length+1:=by have:=fR e2;simpa using this
 have e3:nth (τ++[.list true vs,.frame []]) i=some o:=by
  have:τ++[O.list true vs,.frame []]=(τ++[.list true vs])++[.frame []]:=by simp
  rw[this];exact jE _ e2
 have hi2:i<ρ'.length:=by rw[r.rel.len];exact fR e3
 have e4:nth ρ' i=some a:=by
  obtain⟨a',e5⟩:=jI r.rel.len.symm e3;have:=keep i a' hi e5;rw[e1] at this;cases this;exact e5
 exact r.rel.apart i (τ.length+1) a C o (.frame []) e4 e3 eC lC (by omega) C m (.head _)
structure Ah(c:Cx)(elt target:Expr)(scope:Scope)(cl:List (Str×Addr))(env:Env)(A:Around)(s₀ s₂:Shared)(ge:Addr)(N2:qX)(ρ9 ρ:List Addr)(σ0 σ:List O)(J:Nat->List O->List V->Prop)(g:Nat->Option Nat):Prop where
 R0:c.R ρ9 σ0 s₀.heap
 rb:c.Rs ρ9 σ0 s₀ ρ σ s₂
 hI:jF N2 ge 0 ρ s₂.heap
 nI:ge∉dA ρ σ
 f0:s₀.heap.get? ge=none\/ge∈dA ρ9 σ0
 hlet:∀vv v Ia j ρ' (s:Shared) (Q:Unit->Shared->Prop) E',N2.at j=some vv->dH ρ' s.heap vv v->jF N2 Ia (j+1) ρ' s.heap->Q Unit.unit s->wpAny c.M A (letOwnedTupleGo target (.ref Ia) v) Q E' s
 h0:J 0 σ []
 hJ:∀j τ vs,J j τ vs->vs.length<=1000/\om N2 τ
 turn:∀j τ vs v C (s:Shared) ρ' y E',J j τ vs->N2.at j=some v->τ.length=σ.length->c.Rs ρ9 σ0 s₀ ρ' (τ++[.list true vs,.frame []]) s->nth ρ' (σ.length+1)=some C->dH ρ' s.heap v y->
   wpAny c.M A (assign target (compEnvC scope cl C env) y) (λI s1=>wpAny c.M A (eval elt (compEnvC scope cl C env)) (λz s3=>∃ρ3 τ' w fr,c.Rs ρ' (τ++[.list true vs,.frame []]) s ρ3 (τ'++[.list true vs,.frame fr]) s3/\τ'.length=σ.length/\dH ρ3 s3.heap w z/\J (j+1) τ' (vs++[w])) E' s1) E' s
 le:σ0.length<=σ.length
 tell:∀τ vs,J N2.len τ vs->τ.length=σ.length->dg c (τ.length+1) g (τ++[.list true vs,.frame []]) (·=τ++[.list true vs])
nonrec theorem qa{c:Cx}{elt target iter:Expr}{scope:Scope}{cl:List (Str×Addr)}{pos:Pos}{env:Env}{A:Around}{E:Value->Shared->Prop}{s:Shared}{Q:Value->Shared->Prop}(X:c.Ok)(hh:A.handled=none)(hclos:closureFor scope env=pure cl)(hcell:∀y∈scope.names,y.2≠ .cell)(hkind:scope.kind= .function)(hnames:∀y∈scope.names,y.2= .local->scope.names.lookup y.1=some .local)(hs:∀x,foldedSetIterable iter env x=pure x)(h:wpAny c.M A (eval iter env) (λxv s₁=>wpAny c.M A (pyIter xv) (λit s₂=>∃ge s₀ N2 ρ9 ρ σ0 σ J g,it= .ref ge/\Ah c elt target scope cl env A s₀ s₂ ge N2 ρ9 ρ σ0 σ J g/\
   ∀ρ' s' τ vs D,J N2.len τ vs->τ.length=σ.length->c.Rs ρ9 σ0 s₀ ρ' (τ++[.list true vs]) s'->nth ρ' σ.length=some D->Q (.ref D) s') E s₁) E s):wpAny c.M A (eval (.ListComp elt [⟨target,iter,[],0⟩] scope pos) env) Q E s:=by
 rw[eval_ListComp];refine wpAny_comprehension_free (use:=none) rfl hs hclos hkind hnames (aK h (λxv s₁ h₁=>aK h₁ (λit s₂ h₂=>?_) λI I e=>e) λI I e=>e);obtain⟨ge,s₀,N2,ρ9,ρ,σ0,σ,J,g,rfl,K,q⟩:=h₂;refine us X (RR:=λB' C=>compPost c.M A E none Q B' C) hh K.hlet hcell hkind K.R0 K.rb K.hI K.nI K.f0 J K.h0 K.hJ K.turn λρ' s' τ vs D C j hl r eD eC=>?_;obtain⟨m,b⟩:=qO K.R0 (by have:=K.le;omega) r (by rw[hl];exact eD) (by rw[hl];exact eC) (K.tell τ vs j hl);refine⟨m.choose,m.choose_spec,λh' sb=>?_⟩;obtain⟨ρ2,r2,e2⟩:=b h' sb;exact q ρ2 _ τ vs D j hl r2 (by rw[<-hl];exact e2)
nonrec theorem wS{c:Cx}{elt target iter:Expr}{scope:Scope}{cl:List (Str×Addr)}{pos spos py:Pos}{y:Str}{env:Env}{A:Around}{E:Value->Shared->Prop}{s:Shared}{Q:Flow->Shared->Prop}(X:c.Ok)(hh:A.handled=none)(hsw:swapsWith (.ListComp elt [⟨target,iter,[],0⟩] scope pos) (some (.Name y py)) spos.line env=pure true)(hclos:closureFor scope env=pure cl)(hcell:∀y∈scope.names,y.2≠ .cell)(hkind:scope.kind= .function)(hnames:∀y∈scope.names,y.2= .local->scope.names.lookup y.1=some .local)(hs:∀x,foldedSetIterable iter env x=pure x)(h:wpAny c.M A (eval iter env) (λxv s₁=>wpAny c.M A (pyIter xv) (λit s₂=>∃ge s₀ N2 ρ9 ρ σ0 σ J g,it= .ref ge/\Ah c elt target scope cl env A s₀ s₂ ge N2 ρ9 ρ σ0 σ J g/\
   ∀ρ' s' τ vs D C,J N2.len τ vs->τ.length=σ.length->c.Rs ρ9 σ0 s₀ ρ' (τ++[.list true vs,.frame []]) s'->nth ρ' σ.length=some D->nth ρ' (σ.length+1)=some C->
    wpAny c.M A (storeName env y (.ref D)) (λI s''=>∃m,s''.heap.Ns C m/\∀h',Heap.SameBut C s''.heap h'->Q .next {s'' with heap:=h'}) E s') E s₁) E s):wpAny c.M A (exec (.Assign [.Name y py] (.ListComp elt [⟨target,iter,[],0⟩] scope pos) spos) env) Q E s:=by
 rw[exec_Assign_Name_used _ _ _ _ hsw];refine aa (ba (aa ?_));show wpAny _ A (do let _ <-comprehension (.ListComp elt [⟨target,iter,[],0⟩] scope pos) scope env _ (newList []) false (eval iter env) (some (assign (.Name y py) env))) _ _ s;refine aa (aK (wpAny_comprehension_free (use:=some (assign (.Name y py) env)) (Q:=λI s'=>Q .next s') rfl hs hclos hkind hnames
  (aK h (λxv s₁ h₁=>aK h₁ (λit s₂ h₂=>?_) λI I e=>e) λI I e=>e)) (λI s' hq=>aE (aE hq)) λI I e=>e)
 obtain⟨ge,s₀,N2,ρ9,ρ,σ0,σ,J,g,rfl,K,q⟩:=h₂;refine us X (RR:=λB' C=>compPost c.M A E (some (assign (.Name y py) env)) (λI s'=>Q .next s') B' C) hh K.hlet hcell hkind K.R0 K.rb K.hI K.nI K.f0 J K.h0 K.hJ K.turn λρ' s' τ vs D C j hl r eD eC=>?_;exact bN (q ρ' s' τ vs D C j hl r eD eC)
def u8(mk:Bool)(nd:V)(s:Str)(an:Bool)(lim:Int)(tl:List (Nm×V)):List (Nm×V):=[(dR,.bool mk),(cU,nd),(cS,.str true s),(cT,.bool an),(dK,.int true lim)]++tl
abbrev eF(lim st:Int):O:=.inst 576 [(gw,.obj 6),(dK,.int true lim),(fS,.obj 7),(gL,.int true st),(eP,.obj 8)]
def iG(R F c2 c3:O)(fr:List (Nm×V))(H D L:O)(tl:List O):List O:=R::F::c2::c3:: .frame fr::H::D:: .list true []::L::tl
def Mo:MS:=.ite (.loc dR) [.asg dj (.call (.glb iV) [.loc cU,.loc cS,.loc cT,.loc dt])] [.asg dj (.call (.glb ku) [.loc cU,.loc cS,.loc cT,.loc dt])]
def xf(g:Nm):ME:=.call (.glb g) [.loc cU,.loc cS,.loc cT,.loc dt]
def gN(mk:Bool):Nm:=if mk then iV else ku
abbrev LO(mk:Bool):Nat:=if mk then 538 else 587
abbrev pP(mk:Bool)(nd:V)(s:Str)(an:Bool)(lim:Int):=u8 mk nd s an lim [(dt,.obj 5)]
abbrev q7(mk:Bool)(nd:V)(s:Str)(an:Bool)(lim:Int)(v:V):=u8 mk nd s an lim [(dt,.obj 5),(dj,v)]
abbrev lL(bg en:Int):V:=.tup [.int true bg,.int true en,.obj 9]
section
variable(sp:jC) (sl:jz) (r:Nat)
abbrev P0:=Pg (fe []) sp sl r
abbrev P2:=Pg (fe [538,587]) sp sl r
section
variable(R F c2 c3 H D L:O) (mk:Bool) (nd:V) (s:Str) (an:Bool) (lim st:Int) (v:V) (H1 D1 L1:O) (tl:List O)
theorem L4:Option.map pT (jk (P0 sp sl r) (ev (P0 sp sl r) 20) (lR gm 0) 4 ⟨[R,F,c2,c3,.frame (u8 mk nd s an lim [])],[],[]⟩)=
  some (Fl.next,[R,F,c2,c3,.frame (u8 mk nd s an lim [(dt,.obj 7)]),.dict [],.list true [],.inst 576 [(gw,.obj 5),(dK,.int true lim),(fS,.obj 6),(gL,.int false 0),(eP,.obj 9)],.frame [(cV,.obj 7),(gw,.obj 5),(dK,.int true lim),(fS,.obj 6)],.list true []],[]):=by
 walk_at"k"
theorem Mj:Option.map GP ((ev (P0 sp sl r) 20).t (.loc dR) 4 ⟨iG R F c2 c3 (pP mk nd s an lim) H D L tl,[],[]⟩)=some (mk,iG R F c2 c3 (pP mk nd s an lim) H D L tl,[]):=by
 walk_at"k"
theorem Mh:Option.map pT (jk (P2 sp sl r) (ev (P2 sp sl r) 20) (.asg dj (xf (gN mk))) 4 ⟨iG R F c2 c3 (pP mk nd s an lim) (eF lim st) D L [],[.k v (iG R F c2 c3 (pP mk nd s an lim) H1 D1 L1 tl)],[]⟩)=
  some (.next,iG R F c2 c3 (q7 mk nd s an lim v) H1 D1 L1 tl,[sp (LO mk) [nd,.str true s,.bool an,.obj 5] (iG R F c2 c3 (pP mk nd s an lim) (eF lim st) D L []) v (iG R F c2 c3 (pP mk nd s an lim) H1 D1 L1 tl)]):=by
 cases mk<;>walk_at"k"
end
variable(rsp:uT) (rsl:vi)
section
variable(R F c2 c3 H D L:O) (mk:Bool) (nd:V) (s:Str) (an:Bool) (lim st:Int) (H1 D1 L1:O) (bg en:Int) (N:O) (tl:List O) (M:O) (fr:List (Nm×V)) (s1:Str)
theorem LZ:Option.map Ao (rE (P0 sp sl r) (ev (P0 sp sl r) 20) (tP (P0 sp sl r) (Rg (fe [538,587]) rsp rsl) 20) (xf (gN mk)) 4 ⟨iG R F c2 c3 (pP mk nd s an lim) (eF lim st) D L [],[.r (iG R F c2 c3 (pP mk nd s an lim) H1 D1 L1 [])],[]⟩)=
  some (iG R F c2 c3 (pP mk nd s an lim) H1 D1 L1 [],[rsp (LO mk) [nd,.str true s,.bool an,.obj 5] (iG R F c2 c3 (pP mk nd s an lim) (eF lim st) D L []) (iG R F c2 c3 (pP mk nd s an lim) H1 D1 L1 [])]):=by
 cases mk<;>walk_at"k"
theorem K9:Option.map pT (jk (P0 sp sl r) (ev (P0 sp sl r) 20) (lR gm 2) 4 ⟨iG R F c2 c3 (q7 mk nd s an lim .none) (eF lim st) D L [],[],[]⟩)=
  some (.ret (.tup [.tup [.str false js],.obj 8]),iG R F c2 c3 (q7 mk nd s an lim .none) (eF lim st) D L [],[]):=by
 walk_at"k"
theorem K6:Option.map pT (jk (P0 sp sl r) (ev (P0 sp sl r) 20) (lR gm 2) 4 ⟨iG R F c2 c3 (q7 mk nd s an lim (lL bg en)) (eF lim st) D L [N],[],[]⟩)=
  some (.next,iG R F c2 c3 (q7 mk nd s an lim (lL bg en)) (eF lim st) D L [N],[]):=by
 walk_at"k"
theorem Kn:Option.map qD ((ev (P0 sp sl r) 20).e (.item (.loc dj) (.cst (.int 0))) 4 ⟨iG R F c2 c3 (q7 mk nd s an lim (lL bg en)) H D L tl,[],[]⟩)=some (.int true bg,iG R F c2 c3 (q7 mk nd s an lim (lL bg en)) H D L tl,[]):=by
 walk_at"k"
theorem Kp:Option.map qD ((ev (P0 sp sl r) 20).e (.item (.loc dj) (.cst (.int 1))) 4 ⟨iG R F c2 c3 (q7 mk nd s an lim (lL bg en)) H D L tl,[],[]⟩)=some (.int true en,iG R F c2 c3 (q7 mk nd s an lim (lL bg en)) H D L tl,[]):=by
 walk_at"k"
theorem Li:Option.map qD ((ev (P0 sp sl r) 20).e (.item (.loc dj) (.cst (.int 2))) 4 ⟨iG R F c2 c3 (q7 mk nd s an lim (lL bg en)) H D L tl,[],[]⟩)=some (.obj 9,iG R F c2 c3 (q7 mk nd s an lim (lL bg en)) H D L tl,[]):=by
 walk_at"k"
theorem Kj:Option.map qD ((ev (P0 sp sl r) 20).e (.cst (.str lV)) 4 ⟨iG R F c2 c3 (q7 mk nd s an lim (lL bg en)) H D L tl,[],[]⟩)=some (.str false lV,iG R F c2 c3 (q7 mk nd s an lim (lL bg en)) H D L tl,[]):=by
 walk_at"k"
theorem KS:Option.map qD ((ev (P0 sp sl r) 20).e (.attr (.loc dt) eP) 4 ⟨iG R F c2 c3 (q7 mk nd s an lim (lL bg en)) (eF lim st) D L tl,[],[]⟩)=some (.obj 8,iG R F c2 c3 (q7 mk nd s an lim (lL bg en)) (eF lim st) D L tl,[]):=by
 walk_at"k"
theorem K8:Option.map qD ((ev (P0 sp sl r) 20).e (.tup [.attr (.loc eH) iS,.loc ia]) 11 ⟨iG cY F c2 c3 fr H D L [N,M,.frame [(eH,.obj 0),(ia,.str true s1)]],[],[]⟩)=
  some (.tup [.str false sK,.str true s1],iG cY F c2 c3 fr H D L [N,M,.frame [(eH,.obj 0),(ia,.str true s1)]],[]):=by
 walk_at"k"
end
end
abbrev zM:Sk Stmt:=.ret (.tup (.l [.tup (.l [.cst (.str hV),.attr (.loc lE) dX,.attr (.loc dt) gL]),.attr (.loc dt) eP]))
section
variable{b:Bs}
section
variable{σ:List O} {s:Shared} {ρ:List Addr} {Q:Value->Shared->Prop}
theorem fY(G:dI b){fi:Nat}{n:Nm}{v:V}{m:List (Nm×V)}(hf:nth σ fi=some (.frame m))(hv:gX n m=some v){A:Around}{env:Env}{pos:Pos}{E:Value->Shared->Prop}(en:dE env fi ρ)
  (hl:env.scope.names.lookup (nmT n)=some .local) (hd:(nmT n==("__debug__":Str))=false) (R:(C b).R ρ σ s.heap) (q:∀y,dH ρ s.heap v y->Q y s):wpAny (C b).M A (eval (.Name (nmT n) pos) env) Q E s:=by
 obtain⟨mp,hm,z⟩:=R.at en.loc hf;obtain⟨x,e1,e2⟩:=z n v hv;exact wpAny_Name (cj en.kind hl hm e1 (q x e2)) hd
theorem Dg(G:dI b){i n:Nat}{v:V}{Cc:Addr}{fs:List (Nm×V)}(hi:nth σ i=some (.inst Cc fs))(hf:oh.fld Cc n)(hv:gX n fs=some v){A:Around}{x:Value}{ex:Bool}{E:Value->Shared->Prop}(R:(C b).R ρ σ s.heap)(vx:dH ρ s.heap (.obj i) x)
  (q:∀s' z,(C b).Rs ρ σ s ρ σ s'->dH ρ s'.heap v z->Q z s'):wpAny (C b).M A (getAttr x (nmT n) ex) Q E s:=
 (vT (c:=C b) G.X (st:=⟨σ,[],[]⟩) (C':=⟨σ,[],[]⟩) (v:=v) (n:=n) (o:=.obj i) (by
  show Kh (nth σ i) (λC fs=>oi (oh.fld C n) (on (gX n fs) λv=>some (v,(⟨σ,[],[]⟩:St))) none)=_;rw[hi];show oi (oh.fld Cc n) (on (gX n fs) _) none=_;rw[hf];show on (gX n fs) _=_;rw[hv];rfl) (λI m=>by cases m)).2.2 A s ρ x ex Q E R (λI I e=>by cases e) vx q
theorem Jj{vs:List V}{ys:List Value}(R:(C b).R ρ σ s.heap)(v:dy ρ s.heap vs ys)(hz:vs.length<=1000)
  (q:∀s' y,(C b).Rs ρ σ s ρ σ s'->dH ρ s'.heap (.tup vs) y->Q y s'):ys.length<=sizeLine/\Q (.ref s.heap.objs.size) {s with heap:=s.heap.push {cls:=.type "tuple",data:=.seq ys.toArray}}:=by
 have big:=dv;refine⟨by rw[v.length];omega,q _ _ (.more0 R (λb o e=>ae _ e) rfl rfl) ⟨_,ys,rfl,⟨_,aB _ rfl,rfl,0,rfl⟩,v.up (.refl _) (.of_keeps λb o e=>ae _ e)⟩⟩
theorem po{A:Around}{env:Env}{elts:List Expr}{x1:Nat}{pos:Pos}{E:Value->Shared->Prop}
  (h:wpAny (C b).M A (spliced (backTo pos (starEach elts env))) (λys s'=>∃ρ σ vs,(C b).R ρ σ s'.heap/\dy ρ s'.heap vs ys/\vs.length<=1000/\∀s'' y,(C b).Rs ρ σ s' ρ σ s''->dH ρ s''.heap (.tup vs) y->Q y s'') E s):wpAny (C b).M A (eval (.Tuple elts x1 pos) env) Q E s:=
 cN (aK h (λys s' z=>by obtain⟨ρ,σ,vs,R,v,hz,q⟩:=z;exact Jj R v hz q) λI I z=>z)
theorem d9.exc{c:Cx}{l:List Env}{ρ':List Addr}{σ':List O}{s':Shared}{a:Addr}(x:d9 c (JT c) l ρ σ s σ' ρ' a s'):
  ∃vs d o mA tk,s'.heap.get? a=some ⟨.ref 120,some d,.fields vs,o⟩/\d≠a/\(∀b∈l.filterMap (·.frame),b≠d)/\s'.heap.Ns d mA/\mA (c.nm dX)=some (.int 22 tk)/\a∉dA ρ' σ':=by
 obtain⟨sm,fs,r,F,⟨t,d,o,mA,tk,e1,e2,e3,e4,e5⟩,h4,h5,h6,h7,_⟩:=x;obtain⟨oe,vs,vs',z1,z2,z3,_⟩:=F.exc;rw[e1] at z1;cases z1;obtain⟨od,es,ep,w1,w2⟩:=e4;exact⟨vs',d,o,mA,tk,z3,e2,λb m z=>e3 (z▸h4 b m),⟨od,es,ep,F.same d od w1 e3 e2,w2⟩,e5,h7⟩
theorem jp(R F c2 c3:O)(fr:List (Nm×V))(H D L:O)(tl:List O):nth (iG R F c2 c3 fr H D L tl) 4=some (.frame fr):=rfl
end
end
namespace gE
def zS(b:Bs)(A:Around)(env:Env)(l:List Env)(ρ ρ':List Addr)(σ:List O)(s:Shared)(R F c2 c3 D L:O)(mk an:Bool)(nd:V)(sb:Str)(lim st:Int)(pt:Pos)(ret:Stmt)(pos:Pos)(Q:Flow->Shared->Prop)(E:Value->Shared->Prop):Prop:=∀(G:dI b),∀(XFc:XF (C b)),∀{s':Shared},∀{a:Addr},∀(x:d9 (C b) (JT (C b)) (env::l) ρ σ s (iG R F c2 c3 (pP mk nd sb an lim) (eF lim st) D L []) ρ' a s'),∀(R0:(C b).R ρ σ s.heap),∀(hl:∀L∈(env::l).filterMap (·.frame),L∈dA ρ σ),∀(en:dE env 4 ρ'),∀(ef:env.frame=some env.locals),∀(ct:env.scope.names.lookup (nmT gF)=some .globalImplicit/\(nmT gF==("__debug__":Str))=false),∀(cr:fE env.scope zM ret),∀(q:∀ρ3 s3 y,(C b).Rs ρ σ s ρ3 (iG R F c2 c3 [] (eF lim st) D L []) s3->dH ρ3 s3.heap (.tup [.tup [.str true hV,.int true 22,.int true st],.obj 8]) y->Q (.ret y) s3),wpAny (C b).M A (handleBy (.ref a) env [.ExceptHandler (some (.Name (nmT gF) pt)) (some (nmT lE)) [bE zM ret] pos]) Q E s'
def zt:Bs×Around×Env×List Env×List Addr×List Addr×List O×Shared×O×O×O×O×O×O×Bool×Bool×V×Str×Int×Int×Pos×Stmt×Pos×(Flow->Shared->Prop)×(Value->Shared->Prop):=E1 (λp=>zS p.1 p.2.1 p.2.2.1 p.2.2.2.1 p.2.2.2.2.1 p.2.2.2.2.2.1 p.2.2.2.2.2.2.1 p.2.2.2.2.2.2.2.1 p.2.2.2.2.2.2.2.2.1 p.2.2.2.2.2.2.2.2.2.1 p.2.2.2.2.2.2.2.2.2.2.1 p.2.2.2.2.2.2.2.2.2.2.2.1 p.2.2.2.2.2.2.2.2.2.2.2.2.1 p.2.2.2.2.2.2.2.2.2.2.2.2.2.1 p.2.2.2.2.2.2.2.2.2.2.2.2.2.2.1 p.2.2.2.2.2.2.2.2.2.2.2.2.2.2.2.1 p.2.2.2.2.2.2.2.2.2.2.2.2.2.2.2.2.1 p.2.2.2.2.2.2.2.2.2.2.2.2.2.2.2.2.2.1 p.2.2.2.2.2.2.2.2.2.2.2.2.2.2.2.2.2.2.1 p.2.2.2.2.2.2.2.2.2.2.2.2.2.2.2.2.2.2.2.1 p.2.2.2.2.2.2.2.2.2.2.2.2.2.2.2.2.2.2.2.2.1 p.2.2.2.2.2.2.2.2.2.2.2.2.2.2.2.2.2.2.2.2.2.1 p.2.2.2.2.2.2.2.2.2.2.2.2.2.2.2.2.2.2.2.2.2.2.1 p.2.2.2.2.2.2.2.2.2.2.2.2.2.2.2.2.2.2.2.2.2.2.2.1 p.2.2.2.2.2.2.2.2.2.2.2.2.2.2.2.2.2.2.2.2.2.2.2.2) (by(constructor;repeat' first | exact bs0 | exact default | exact{} | exact[] | exact .none | exact .any | exact λI=>True | exact λI I=>True | exact λI I I=>True | apply Prod.mk))
def b:=zt.1
def A:=zt.2.1
def env:=zt.2.2.1
def l:=zt.2.2.2.1
def ρ:=zt.2.2.2.2.1
def ρ':=zt.2.2.2.2.2.1
def σ:=zt.2.2.2.2.2.2.1
def s:=zt.2.2.2.2.2.2.2.1
def R:=zt.2.2.2.2.2.2.2.2.1
def F:=zt.2.2.2.2.2.2.2.2.2.1
def c2:=zt.2.2.2.2.2.2.2.2.2.2.1
def c3:=zt.2.2.2.2.2.2.2.2.2.2.2.1
def D:=zt.2.2.2.2.2.2.2.2.2.2.2.2.1
def L:=zt.2.2.2.2.2.2.2.2.2.2.2.2.2.1
def mk:=zt.2.2.2.2.2.2.2.2.2.2.2.2.2.2.1
def an:=zt.2.2.2.2.2.2.2.2.2.2.2.2.2.2.2.1
def nd:=zt.2.2.2.2.2.2.2.2.2.2.2.2.2.2.2.2.1
def sb:=zt.2.2.2.2.2.2.2.2.2.2.2.2.2.2.2.2.2.1
def lim:=zt.2.2.2.2.2.2.2.2.2.2.2.2.2.2.2.2.2.2.1
def st:=zt.2.2.2.2.2.2.2.2.2.2.2.2.2.2.2.2.2.2.2.1
def pt:=zt.2.2.2.2.2.2.2.2.2.2.2.2.2.2.2.2.2.2.2.2.1
def ret:=zt.2.2.2.2.2.2.2.2.2.2.2.2.2.2.2.2.2.2.2.2.2.1
def pos:=zt.2.2.2.2.2.2.2.2.2.2.2.2.2.2.2.2.2.2.2.2.2.2.1
def Q:=zt.2.2.2.2.2.2.2.2.2.2.2.2.2.2.2.2.2.2.2.2.2.2.2.1
def E:=zt.2.2.2.2.2.2.2.2.2.2.2.2.2.2.2.2.2.2.2.2.2.2.2.2
theorem zP:zS b A env l ρ ρ' σ s R F c2 c3 D L mk an nd sb lim st pt ret pos Q E:=by
 intro G XFc s' a x R0 hl en ef ct cr q;obtain⟨⟨_,⟨lw,dw⟩,⟨lh,dh⟩,_⟩,_⟩:=cr;obtain⟨xc,hC⟩:=XFc.cls;have r1:=x.rs R0 hl;have inS:(C b).K.In s'.heap:=G.X.In r1.rel;refine wpAny_handleBy_cons (codeAny_handlers_test ?_) (by intro z;cases z);refine g9 (c:=C b) (st:=⟨_,[],[]⟩) G.X (n:=gF) (v:=.val (.ref 120)) rfl en ct.1 ct.2 r1.rel λy vy=>?_;obtain⟨rfl,_⟩:=vy;obtain⟨vs1,d1,o1,mA1,tk1,g1,_⟩:=x.exc;obtain⟨h',gn,dr,tk,os⟩:=s';refine wpAny_excMatches_sub_self (inS _ _ hC) g1 rfl (by rfl) ?_;rw[if_pos rfl];refine codeAny_handlers_suite_as (x.flight λs2 x2=>?_);have r2:=x2.rs R0 hl;obtain⟨vs,d,o,mA,tk2,ga,nda,ndf,nsd,hv,nfa⟩:=x2.exc;have eL:env.locals∈(env::l).filterMap (·.frame):=by rw[a8,ef];exact .head _
 have ndL:env.locals≠d:=ndf _ eL;have mL:env.locals∈dA ρ' (iG R F c2 c3 (pP mk nd sb an lim) (eF lim st) D L []):=dC.mpr ⟨4,_,_,en.loc,rfl,.head _⟩;have naL:a≠env.locals:=λz=>nfa (z▸mL);obtain⟨mp,hm,zz⟩:=r2.rel.at en.loc (jp R F c2 c3 _ _ D L []);refine wpAny_storeName_local lw hm (λh3 hm3 sb3=>?_) en.notCls;have tk3:=r2.rel.tkBut en.loc (jp R F c2 c3 _ _ D L []) rfl sb3;have r3:(C b).Rs ρ' (iG R F c2 c3 (pP mk nd sb an lim) (eF lim st) D L []) s2 ρ' (iG R F c2 c3 (pP mk nd sb an lim) (eF lim st) D L []) {s2 with heap:=h3}:=
  eR.setC r2.rel en.loc (jp R F c2 c3 _ _ D L []) (o':=.frame (pP mk nd sb an lim)) rfl (λb x e m=>by rw[sb3.2 b (λq=>m (by rw[q];exact .head _))];exact e) ⟨_,hm3,λn v e=>by
   obtain⟨y,y1,y2⟩:=zz n v e;refine⟨y,?_,y2.up (.refl _) tk3⟩;rw[if_neg (λz=>?_)]
   .exact y1
   .have:=G.X.inj n lE z
    subst this;rw[show gX lE (pP mk nd sb an lim)=none from rfl] at e;cases e⟩ rfl rfl (aY sb3.1.symm)
 have ga3:h3.get? a=some ⟨.ref 120,some d,.fields vs,o⟩:=by rw[sb3.2 a naL];exact ga
 have nsd3:h3.Ns d mA:=nsd.at' λo e=>by rw[sb3.2 d ndL.symm];exact e
 refine ak (wpAny_Return_some (po (aF (po (aF (cH (aF ?_)))))));show wpAny (C b).M _ (eval (.Attribute (.Name (nmT lE) _) (nmT dX) _) env) _ _ _;rw[arm_eval_Attribute,hO rfl];refine aa (wpAny_Name (cj (v:=.ref a) en.kind lw hm3 (if_pos rfl) ?_) dw);refine aa (ba (aa (aU ?_)));obtain⟨mN,n1,n2,n3,n4⟩:=XFc.ns2;have in3:(C b).K.In h3:=G.X.In r3.rel;refine vF (in3 _ _ hC) (n1.keeps r3.rel.old) n2 n3 n4 XFc.nmN ga3 nsd3 hv rfl ?_;refine aa (wpAny_letTemporaryGo (aE (aF ?_)));show wpAny (C b).M _ (eval (.Attribute (.Name (nmT dt) _) (nmT gL) _) env) _ _ _;rw[arm_eval_Attribute,hO rfl];have r4:=r3.trans (eR.more0 (s':={s2 with heap:=h3,toks:=s2.toks+1+1+1}) r3.rel (λI I e=>e) rfl rfl);refine aa (fY G (v:=.obj 5) (jp R F c2 c3 _ _ D L []) rfl en lh dh r4.rel λy5 v5=>?_);refine aa (ba (aa (aU (Dg G (i:=5) (n:=gL) (v:=.int true st) rfl rfl rfl r4.rel v5 λs5 z5 r5 vz5=>?_))));refine aa (wpAny_letTemporaryGo (aE (aN ?_)));obtain⟨t5,rfl⟩:=vz5;refine⟨_,_,[.str true hV,.int true 22,.int true st],r5.rel,⟨_,_,rfl,⟨_,rfl⟩,_,_,rfl,⟨_,rfl⟩,_,_,rfl,⟨_,rfl⟩,rfl⟩,by show 3<=1000;decide,λs6 y6 r6' v6=>aF ?_⟩;have r6:=r5.trans r6';show wpAny (C b).M _ (eval (.Attribute (.Name (nmT dt) _) (nmT eP) _) env) _ _ _;rw[arm_eval_Attribute,hO rfl];refine aa (fY G (v:=.obj 5) (jp R F c2 c3 _ _ D L []) rfl en lh dh r6.rel λy7 v7=>?_);refine aa (ba (aa (aU (Dg G (i:=5) (n:=eP) (v:=.obj 8) rfl rfl rfl r6.rel v7 λs7 z7 r7 vz7=>?_))));refine aa (wpAny_letTemporaryGo (aE (aN ?_)));refine⟨_,_,[.tup [.str true hV,.int true 22,.int true st],.obj 8],r7.rel,⟨_,_,rfl,r7.v r6.rel v6,_,_,rfl,vz7,rfl⟩,by show 2<=1000;decide,λs8 y8 r8' v8=>?_⟩;have r8:=((r4.trans r6).trans r7).trans r8';obtain⟨mp8,hm8,_⟩:=r8.rel.at en.loc (jp R F c2 c3 _ _ D L []);refine wpAny_nameGoes lw hm8 en.notCls λh9 m9 hm9 sb9=>?_;have tk9:=r8.rel.tkBut en.loc (jp R F c2 c3 _ _ D L []) rfl sb9;have r9:(C b).Rs ρ' (iG R F c2 c3 (pP mk nd sb an lim) (eF lim st) D L []) s8 ρ' (iG R F c2 c3 [] (eF lim st) D L []) {s8 with heap:=h9,toks:=s8.toks+1}:=
  eR.setC r8.rel en.loc (jp R F c2 c3 _ _ D L []) (o':=.frame []) rfl (λb x e m=>by rw[sb9.2 b (λq=>m (by rw[q];exact .head _))];exact e) ⟨_,hm9,λn v e=>by cases e⟩ rfl rfl (aY sb9.1.symm)
 exact q ρ' _ _ ((r2.trans r8).trans r9) (v8.up (.refl _) tk9)
end gE
theorem gE{b A env l ρ ρ' σ s R F c2 c3 D L mk an nd sb lim st pt ret pos Q E}:gE.zS b A env l ρ ρ' σ s R F c2 c3 D L mk an nd sb lim st pt ret pos Q E:=A1 (S:=λp=>gE.zS p.1 p.2.1 p.2.2.1 p.2.2.2.1 p.2.2.2.2.1 p.2.2.2.2.2.1 p.2.2.2.2.2.2.1 p.2.2.2.2.2.2.2.1 p.2.2.2.2.2.2.2.2.1 p.2.2.2.2.2.2.2.2.2.1 p.2.2.2.2.2.2.2.2.2.2.1 p.2.2.2.2.2.2.2.2.2.2.2.1 p.2.2.2.2.2.2.2.2.2.2.2.2.1 p.2.2.2.2.2.2.2.2.2.2.2.2.2.1 p.2.2.2.2.2.2.2.2.2.2.2.2.2.2.1 p.2.2.2.2.2.2.2.2.2.2.2.2.2.2.2.1 p.2.2.2.2.2.2.2.2.2.2.2.2.2.2.2.2.1 p.2.2.2.2.2.2.2.2.2.2.2.2.2.2.2.2.2.1 p.2.2.2.2.2.2.2.2.2.2.2.2.2.2.2.2.2.2.1 p.2.2.2.2.2.2.2.2.2.2.2.2.2.2.2.2.2.2.2.1 p.2.2.2.2.2.2.2.2.2.2.2.2.2.2.2.2.2.2.2.2.1 p.2.2.2.2.2.2.2.2.2.2.2.2.2.2.2.2.2.2.2.2.2.1 p.2.2.2.2.2.2.2.2.2.2.2.2.2.2.2.2.2.2.2.2.2.2.1 p.2.2.2.2.2.2.2.2.2.2.2.2.2.2.2.2.2.2.2.2.2.2.2.1 p.2.2.2.2.2.2.2.2.2.2.2.2.2.2.2.2.2.2.2.2.2.2.2.2) gE.zP (b,A,env,l,ρ,ρ',σ,s,R,F,c2,c3,D,L,mk,an,nd,sb,lim,st,pt,ret,pos,Q,E)
section
variable{b:Bs}
end
def HN(c:Cx)(f:Nat)(vs:List V)(os:List O)(v:V)(H':List O):Prop:=
 ∀(A:Around) (xs:List Value) (s:Shared) (ρ:List Addr) (l:List Env) (Q E:Value->Shared->Prop),ee A c.P.room->c.R ρ os s.heap->iZ c.h₀ l A ρ os s.heap->(∀L∈l.filterMap (·.frame),L∈dA ρ os)->dy ρ s.heap vs xs->
  (∀ρ' s' y,c.Rs ρ os s ρ' H' s'->dH ρ' s'.heap v y->Q y s')->codeAny c.M A (.call (.ref f) ⟨xs,[]⟩) (λr s'=>match r with | .ok (.ret v)=>Q v s' | .ok _=>False | .error e=>E e s') s
theorem mn{c:Cx}(X:c.Ok){f:Addr}{ps:List Nm}{body:List MS}{fd:FuncData}{bd:List Stmt}(K:tO c f ps body fd bd){n:Nat}{vs:List V}{os H' os'':List O}{b:List (Nm×V)}{v v':V}{g:Nat->Option Nat}(eb:qy ps vs=some b)(T:dg c os.length g H' (·=os''))(rv:RV g v v')
  (H:∀(A:Around) (env:Env) (s:Shared) (ρ:List Addr) (l:List Env) (Q:Flow->Shared->Prop) (E:Value->Shared->Prop),ee A n->dE env os.length ρ->env.scope=fd.scope->env.frame=some env.locals->c.R ρ (os++[.frame b]) s.heap->iZ c.h₀ (env::l) A ρ (os++[.frame b]) s.heap->
   (∀L∈(env::l).filterMap (·.frame),L∈dA ρ (os++[.frame b]))->(∀ρ' s' y,c.Rs ρ (os++[.frame b]) s ρ' H' s'->dH ρ' s'.heap v y->Q (.ret y) s')->wpAny c.M A (execs bd env) Q E s):HN (c.at (n+1)) f vs os v' os'':=by
 intro A xs s ρ l Q E rm R0 fr al vr q;have rm:ee A (n+1):=rm;have R0:c.R ρ os s.heap:=R0;obtain⟨oc,od,osl,hf⟩:=K.at_;have len:xs.length=ps.length:=by rw[vr.length,rF eb]
 have lim:s.heap.NoLimit:=X.lim.keeps R0.old;refine codeAny_call_def (by have:=rm.depth;omega) (X.In R0 _ _ hf) rfl lim (codeRec_of (X.In R0) K.code) K.fbody (K.bind _ (X.In R0) xs len) K.cell (λx m=>?_) (λh₀ hns kp=>?_) K.co K.gen K.kind
 .obtain⟨j,hj,e⟩:=List.mem_map.mp (cO m).1
  rw[<-e];exact K.loc j hj
 .have r0:c.Rs ρ os s (ρ++[s.heap.objs.size]) (os++[.frame b]) {s with heap:=h₀,toks:=s.toks+((ps.map c.nm).zip xs).length}:=by
   refine eR.pushC (o:=.frame b) R0 kp (λx m=>by cases aj.mp m;exact fA s) ⟨_,hns,λk v e=>?_⟩ rfl rfl ?_
   .obtain⟨x,e1,e2⟩:=oL X.inj eb vr K.nodup e
    exact⟨x,e1,e2.up (.app _ _) (.of_keeps kp)⟩
   .obtain⟨o,es,ep,ho,_⟩:=hns
    exact aZ (ay ho)
  have en:dE (callEnv fd s.heap.objs.size f) os.length (ρ++[s.heap.objs.size]):=⟨K.kind,by rw[<-R0.len];exact gr _ _,K.glob,K.blt⟩
  have fr':iZ c.h₀ (callEnv fd s.heap.objs.size f::l) (A.deeper (callEnv fd s.heap.objs.size f)) (ρ++[s.heap.objs.size]) (os++[.frame b]) h₀:=
   fr.push (env:=callEnv fd s.heap.objs.size f) r0.rel rfl K.kind R0.len kp (fA s)
  refine H (A.deeper _) _ _ _ l _ _ ⟨?_,?_,rm.handled⟩ en rfl rfl r0.rel fr' (λL m=>?_) λρ1 s1 y r1 v1=>?_
  .show A.depth+1+n<recursionLimit
   have:=rm.depth;omega
  .show A.units+3+8*n<cLine
   have:=rm.units;omega
  .rw[a8] at m
   rcases aD.mp m with rfl | m
   .exact dC.mpr ⟨os.length,_,_,en.loc,gr _ _,.head _⟩
   .exact(l9 s.heap.objs.size (.frame b) R0.len L).mpr (.inl (al L m))
  .obtain⟨ρ2,σ2,rfl,r2,g2,_⟩:=eR.tell (c:=c) (r0.trans r1) T (ao _) R0.len
   exact q ρ2 s1 y r2 (rv.rep g2 v1)
abbrev xI:Sk Stmt:=.try_ (.l [.x Mo]) gF lE (.l [zM])
abbrev zG:Sk Expr:=.compT (.tup [.attr (.loc eH) iS,.loc ia]) (.item (.loc dj) (.cst (.int 2))) [eH,ia]
abbrev rO:Sk Stmt:=.ret (.tup (.l [.tup (.l [.m (.cst (.str lV)),.m (.item (.loc dj) (.cst (.int 0))),.m (.item (.loc dj) (.cst (.int 1))),zG]),.m (.attr (.loc dt) eP)]))
theorem Eb{scope:Scope}(h:nK scope):scope.kind= .function/\(∀y∈scope.names,y.2≠ .cell)/\(∀y∈scope.names,y.2≠ .free)/\∀y∈scope.names,y.2= .local->scope.names.lookup y.1=some .local:=by
 obtain⟨h,c⟩:=cW h;obtain⟨a,b⟩:=cW h;have b:=aT.mp b;have c:=aT.mp c;refine⟨am.mp a,λy m z=>?_,λy m z=>?_,λy m z=>?_⟩
 .have:=(cW (b y m)).1;rw[z] at this;exact absurd this ()
 .have:=(cW (b y m)).2;rw[z] at this;exact absurd this ()
 .have:=c y m
  rw[z] at this
  simpa using this
theorem tS{scope:Scope}(h:∀y∈scope.names,y.2≠ .free)(env:Env):relabel scope env=scope:=by
 unfold relabel;rw[map_eq_self (l:=scope.names) (λx hx=>by
  obtain⟨n,k⟩:=x;have:(k==NameKind.free)=false:=by simpa using h _ hx
  simp [this])]
def fx(k:Nat)(o:O):Prop:=∀f,(∀i,i<k->f i=some i)->RO f o o
theorem fx.more{k k':Nat}{o:O}(h:fx k o)(le:k<=k'):fx k' o:=λf hf=>h f λi hi=>hf i (by omega)
theorem tq:∀(n a i:Nat),i<n->fb (List.range' a n) (a+i)=some i
 |0,_,_,h=>absurd h (cB _)
 |n+1,a,0,_=>by
  rw[List.range'_succ];show(match Nat.beq a (a+0) with | true=>some 0 | false=>_)=_;rw[Nat.add_zero,Nat.beq_refl]
 |n+1,a,i+1,h=>by
  rw[List.range'_succ];show(match Nat.beq a (a+(i+1)) with | true=>some 0 | false=>match fb (List.range' (a+1) n) (a+(i+1)) with | some j=>some (j+1) | none=>none)=_;have:Nat.beq a (a+(i+1))=false:=by
   cases q:Nat.beq a (a+(i+1)) with
   |false=>rfl
   |true=>exact absurd (aP q) (by omega)
  rw[this];dsimp only;have:=tq n (a+1) i (by omega);rw[show a+1+i=a+(i+1) from by omega] at this;rw[this]
theorem qo{n i:Nat}(h:i<n):fb (List.range n) i=some i:=by
 have:=tq n 0 i h
 rwa [bS,<-List.range_eq_range'] at this
theorem H4{k:Nat}{f:Nat->Option Nat}(hf:∀i,i<k->f i=some i):∀{σ:List O},(∀o∈σ,fx k o)->ROs f σ σ
 |[],_=>rfl
 |o::σ,h=>.k (h o (.head _) f hf) (H4 hf λx m=>h x (.tail _ m))
theorem mP{c:Cx}{σ:List O}(τ:List O)(h:∀o∈σ,fx σ.length o):dg c σ.length (fb (List.range σ.length)) (σ++τ) (·=σ):=by
 refine dg.sel (I':=σ) ?_ List.nodup_range (λi hi=>?_) (H4 (λi hi=>qo hi) h)
 .apply List.ext_getElem
  .simp
  .intro i h1 h2
   have hi:i<σ.length:=by simpa using h1
   simp only[List.getElem_map,List.getElem_range];rw[dP,List.getElem?_append_left hi,List.getElem?_eq_getElem hi]
 .rw[dP,List.getElem?_range hi]
theorem kN{α:Type}(g:α->V){l:List α}{j:Nat}{v:V}(h:nth (l.map g) j=some v):∃x,nth l j=some x/\v=g x/\∀g':α->V,(l.take (j+1)).map g'=(l.take j).map g'++[g' x]:=by
 rw[jH] at h;obtain⟨x,h1,rfl⟩:=aq.mp h;refine⟨x,h1,rfl,λg'=>?_⟩;rw[dP] at h1;obtain⟨h2,h3⟩:=List.getElem?_eq_some_iff.mp h1;rw[List.take_add_one,h1];simp
def xQ(s:Str):V:=.tup [.str false sK,.str true s]
nonrec theorem yo{b:Bs}{A:Around}{env:Env}{s:Shared}{ρ:List Addr}{F c2 c3 H D L:O}{mk an:Bool}{nd:V}{sb:Str}{lim bg en:Int}{ns:List Str}{xe:Expr}{Q E:Value->Shared->Prop}(G:dI b)(rm:ee A 40)(ev0:dE env 4 ρ)(ck:fE env.scope zG xe)(hz:ns.length<=1000)(R:(C b).R ρ (iG cY F c2 c3 (q7 mk nd sb an lim (lL bg en)) H D L [.list true (ns.map iC)]) s.heap)(hs:∀o∈iG cY F c2 c3 (q7 mk nd sb an lim (lL bg en)) H D L [.list true (ns.map iC)],fx 10 o)(q:∀ρ' s' y,(C b).Rs ρ (iG cY F c2 c3 (q7 mk nd sb an lim (lL bg en)) H D L [.list true (ns.map iC)]) s ρ' (iG cY F c2 c3 (q7 mk nd sb an lim (lL bg en)) H D L [.list true (ns.map iC),.list true (ns.map xQ)]) s'->dH ρ' s'.heap (.obj 10) y->Q y s'):wpAny (C b).M A (eval (bE zG xe) env) Q E s:=by
 obtain⟨ci,qs,ct,ce⟩:=ck;obtain⟨hk,hcell,hfree,hnames⟩:=Eb qs;generalize hσ:iG cY F c2 c3 (q7 mk nd sb an lim (lL bg en)) H D L [.list true (ns.map iC)]=σ at R hs q;have len:σ.length=10:=by rw[<-hσ];rfl
 refine qa G.X rm.handled (closureFor_none hfree) hcell hk hnames (λv=>mi ci (by intro z;cases z) env v) ?_;obtain⟨⟨fv,st⟩,e1,e2⟩:=aq.mp (show Option.map qD ((ev (Pg (fe []) (Ct b 0) (Lt b 0) 0) 20).e (.item (.loc dj) (.cst (.int 2))) 4 ⟨σ,[],[]⟩)=some (.obj 9,σ,[]) from by
  rw[<-hσ];exact Li (Ct b 0) (Lt b 0) 0 cY F c2 c3 H D L mk nd sb an lim bg en [.list true (ns.map iC)])
 obtain⟨rfl,e3,e4⟩:fv= .obj 9/\st.os=σ/\st.cs=[]:=by simpa only[bc] using e2
 have n9:nth σ 9=some (.list true (ns.map iC)):=by rw[<-hσ];rfl
 have it0:=kK (c:=C b) (r:=0) (orc:=fe []) (n:=20) (fi:=4) (σ:=σ) (xs:=ns.map iC) (y:=true) G.X G.F (dD G rfl) e1 (by rw[e4];exact λI m=>by cases m) (by rw[e3];exact n9);rw[e3] at it0;refine it0 A env _ s ρ _ E (rm.less (show 20+0<=40 by decide)) ev0 ci R (λI I e=>by cases e) λρ1 s1 ge r1 x1 n1 f1=>?_;refine⟨ge,s,.lst 9 (ns.map iC),ρ,ρ1,σ,σ,λj τ vs=>σ=τ/\j<=ns.length/\vs=(ns.take j).map xQ,fb (List.range 11),rfl,⟨R,r1,x1,n1,f1,?_,⟨rfl,aJ _,rfl⟩,?_,?_,ao _,?_⟩,?_⟩
 .intro vv v Ia j ρ' s' Q' E' hv vr xi hq
  obtain⟨x,_,rfl,_⟩:=kN iC hv;obtain⟨t,z',rfl,_⟩:=vr;obtain⟨a,_,hit⟩:=xi;exact wpAny_letOwnedTupleGo_listiter hit hq
 .rintro j τ vs ⟨rfl,hj,rfl⟩
  exact⟨by rw[af];exact(by rw[cc];omega),true,n9⟩
 .rintro j τ vs v Cc s2 ρ2 y E' ⟨rfl,hj,rfl⟩ hv _ r2 eC vy
  obtain⟨x,hx,rfl,hm⟩:=kN iC hv;obtain⟨t,z',rfl,itt,vr⟩:=vy;have en2:dE (compEnvC (de xe).s [] Cc env) 11 ρ2:=⟨hk,by rw[len] at eC;exact eC,ev0.glob,ev0.blt⟩
  have sc2:(compEnvC (de xe).s [] Cc env).scope=(de xe).s:=tS hfree env;obtain⟨q1,q2,q3⟩:=jG (c:=C b) (ns:=[eH,ia]) (env:=compEnvC (de xe).s [] Cc env) (by rw[sc2];exact ct);have e5:kh 11 [eH,ia] [.obj 0,.str true x] ⟨σ++[.list true ((ns.take j).map xQ),.frame []],[],[]⟩=some ⟨σ++[.list true ((ns.take j).map xQ),.frame [(eH,.obj 0),(ia,.str true x)]],[],[]⟩:=by rw[<-hσ];rfl
  refine wpAny_assign_Tuple rm.handled itt (by rw[q3];simp [vr.length]) q2 λh' xb=>?_;have kp:∀b o,s2.heap.get? b=some o->h'.get? b=some o:=λb o e=>xb b o (bG (ay e)) e;have r3:=eR.more0 (s':={s2 with heap:=h'}) r2.rel kp rfl rfl;refine(jb (c:=C b) G.X e5).2 A _ _ ρ2 _ _ _ E' en2 q1 r3.rel (vr.up (.refl _) (.of_keeps kp)) λs4 r4=>?_;have he:σ++[.list true ((ns.take j).map xQ),.frame [(eH,.obj 0),(ia,.str true x)]]=iG cY F c2 c3 (q7 mk nd sb an lim (lL bg en)) H D L [.list true (ns.map iC),.list true ((ns.take j).map xQ),.frame [(eH,.obj 0),(ia,.str true x)]]:=by rw[<-hσ];rfl
  refine jf G (r:=0) (K8 ..) trivial rfl (rm.less ()) en2 (by rw[sc2];exact ce) (he▸r4.rel) λρ5 s5 z r5 vz=>?_;rw[<-he] at r5;exact⟨ρ5,σ,xQ x,_,(r3.trans r4).trans r5,rfl,vz,rfl,fR hx,(hm xQ).symm⟩
 .rintro τ vs ⟨rfl,_,rfl⟩ _
  have:=mP (c:=C b) (σ:=σ++[.list true ((ns.take (qX.lst 9 (ns.map iC)).len).map xQ)]) [.frame []] (λo m=>?_)
  .rw[aw] at this
   have l11:(σ++[O.list true ((ns.take (qX.lst 9 (ns.map iC)).len).map xQ)]).length=11:=by rw[ai,len];rfl
   rw[l11] at this;rw[len];exact this
  .rcases bj.mp m with m | m
   .exact(hs o m).more (by rw[ai,len];exact aA _ _)
   .cases aj.mp m
    exact λf hf=>.l (.map' _ λx I=>.t (.k .s (.k .s .z)))
 .rintro ρ' s' τ vs D' ⟨rfl,_,rfl⟩ _ r eD
  have hL:(ns.take (qX.lst 9 (ns.map iC)).len)=ns:=by
   show ns.take (ns.map iC).length=ns;rw[af,cG]
  rw[hL] at r;refine q ρ' s' _ ?_ ⟨D',by rw[<-dP,<-len];exact eD,rfl⟩;revert r;rw[<-hσ];exact λr=>r
theorem CR{b:Bs}{r n fi:Nat}{σ I':List O}{ch:List Ch}{cs:List Prop}(G:dI b){EI:eW}{l₁:List Nat}{m:ME}(h:Option.map Ao (rE (Pg (fe []) (Ct b r) (Lt b r) r) (ev (Pg (fe []) (Ct b r) (Lt b r) r) n) (tP (Pg (fe []) (Ct b r) (Lt b r) r) (Rg (fe l₁) (eU ((C b).at r) EI) (mK ((C b).at r) EI)) n) m fi ⟨σ,ch,[]⟩)=some (I',cs))(hc:jv cs)(h1:l₁.all (λf=>(oh.fn f).isSome)=true)
  {A:Around} {env:Env} {x:Expr} {s:Shared} {ρ:List Addr} {l:List Env} {Q E:Value->Shared->Prop} (rm:ee A (n+1+r)) (en:dE env fi ρ) (ck:dO nmT env.scope m x) (R:(C b).R ρ σ s.heap) (fr:iZ (C b).h₀ l A ρ σ s.heap)
  (q:∀ρ' s' a,d9 (C b) EI l ρ σ s I' ρ' a s'->E (.ref a) s'):wpAny (C b).M A (eval x env) Q E s:=by
 obtain⟨st,e1,e2⟩:=aq.mp h;obtain⟨rfl,rfl⟩:st.os=I'/\st.cs=cs:=by simpa only[bc] using e2
 have X:=jQ (c:=C b) (r:=r) (orc:=fe []) G.X;have Y:=gO (c:=C b) (r:=r) G.F (dD G (l:=[]) rfl);have Z:=qg (c:=C b) (r:=r) (orc:=fe []) (EI:=EI) (fe l₁) (dD G h1);obtain⟨he,_,_,_⟩:=gV X Y n;obtain⟨hC,_⟩:=mS (EI:=EI) X Y Z n;exact(oy X he hC _ _ _ _ e1 (gh hc)).2 A env x s ρ l Q E rm en ck R (λI I e=>by cases e) fr q
theorem fx.ref{k:Nat}:fx k cY:=λI I=>.ref
nonrec theorem Mu{b:Bs}{f:Nat}{nd:Nd}{s:Str}{an:Bool}{lim:Nat}{lg G':List LE}{st C':Nat}(G:dI b){y:mQ}(T:Ct b 160 f [d6 0 nd,.str true s,.bool an,.obj 1] [cY,dG lim st,valO lg,.list true [],dz lg] (C6 5 y) ([cY,dG lim C',valO G',.list true [],dz G']++rM y))(F c2 c3:O)(fr:List (Nm×V)):Ct b 160 f [d6 0 nd,.str true s,.bool an,.obj 5] (iG cY F c2 c3 fr (eF (lim:Int) (st:Int)) (valO lg) (dz lg) []) (C6 9 y) (iG cY F c2 c3 fr (eF (lim:Int) (C':Int)) (valO G') (dz G') (rM y)):=by
 have hB:∀{f:Nat->Option Nat} {l':Int},f 2=some 6->f 3=some 7->f 4=some 8->RO f (cX (lim:Int) l') (eF (lim:Int) l'):=λh2 h3 h4=>.x (.k (.o h2) (.k .i (.k (.o h3) (.k .i (.k (.o h4) .z)))));have hA:RO (fb [0,5,6,7,8]) (eF (lim:Int) (st:Int)) (dG lim st):=.x (.k (.o rfl) (.k .i (.k (.o rfl) (.k .i (.k (.o rfl) .z)))));have q:=fJ.frame (l:=[0,5,6,7,8]) (os:=iG cY F c2 c3 fr (eF (lim:Int) (st:Int)) (valO lg) (dz lg) []) (I':=[cY,eF (lim:Int) (st:Int),valO lg,.list true [],dz lg]) (news:=[cY,eF (lim:Int) (C':Int),valO G',.list true [],dz G']++rM y) (vs:=[d6 0 nd,.str true s,.bool an,.obj 5]) (w:=C6 9 y) rfl T rfl ()
  (.k .ref (.k hA (.k (.valO lg) (.k (.l .z) (.k (.log lg) .z))))) (.k (.nd (by rfl) nd) (.k .s (.k .b (.k (.o rfl) .z))))
  (.k .ref (.k (hB rfl rfl rfl) (.k (.valO G') (.k (.l .z) (.k (.log G') (by cases y<;>first | exact .z | exact .k (.l (.nps (by rfl) _)) .z)))))) (by cases y<;>first | exact .n | exact .t (.k .i (.k .i (.k (.o (by rfl)) .z))))
 cases y<;>exact q
theorem Lz{b:Bs}(G:dI b){EI:eW}{f:Nat}{nd:Nd}{s:Str}{an:Bool}{lim:Nat}{lg G':List LE}{st C':Nat}(T:eU ((C b).at 160) EI f [d6 0 nd,.str true s,.bool an,.obj 1] [cY,dG lim st,valO lg,.list true [],dz lg] [cY,dG lim C',valO G',.list true [],dz G'])(F c2 c3:O)(fr:List (Nm×V)):
  eU ((C b).at 160) EI f [d6 0 nd,.str true s,.bool an,.obj 5] (iG cY F c2 c3 fr (eF (lim:Int) (st:Int)) (valO lg) (dz lg) []) (iG cY F c2 c3 fr (eF (lim:Int) (C':Int)) (valO G') (dz G') []):=by
 have hB:∀{f:Nat->Option Nat} {l':Int},f 2=some 6->f 3=some 7->f 4=some 8->RO f (cX (lim:Int) l') (eF (lim:Int) l'):=λh2 h3 h4=>.x (.k (.o h2) (.k .i (.k (.o h3) (.k .i (.k (.o h4) .z)))));have hA:RO (fb [0,5,6,7,8]) (eF (lim:Int) (st:Int)) (dG lim st):=.x (.k (.o rfl) (.k .i (.k (.o rfl) (.k .i (.k (.o rfl) .z)))));exact eU.frame (l:=[0,5,6,7,8]) (os:=iG cY F c2 c3 fr (eF (lim:Int) (st:Int)) (valO lg) (dz lg) []) (I':=[cY,eF (lim:Int) (st:Int),valO lg,.list true [],dz lg]) (news:=[cY,eF (lim:Int) (C':Int),valO G',.list true [],dz G']) (vs:=[d6 0 nd,.str true s,.bool an,.obj 5]) rfl T rfl ()
  (.k .ref (.k hA (.k (.valO lg) (.k (.l .z) (.k (.log lg) .z))))) (.k (.nd (by rfl) nd) (.k .s (.k .b (.k (.o rfl) .z))))
  (.k .ref (.k (hB rfl rfl rfl) (.k (.valO G') (.k (.l .z) (.k (.log G') .z)))))
def mu(c:Cx):Prop:=∃fd bd,tO c 676 [dR,cU,cS,cT,dK] gm fd bd/\Fj fd.scope (.l [.any,xI,.any,rO]) bd=true
def Eg(lim:Nat):mQ×List LE×Nat->V
 |(.met j e _,_,_)=>.tup [.tup [.str true lV,.int true (j:Int),.int true (e:Int),.obj 5],.obj 4]
 |(.nope _,_,_)=>.tup [.tup [.str true js],.obj 4]
 |(.raised,_,st)=>.tup [.tup [.str true hV,.int true 22,.int true (st:Int)],.obj 4]
def kl:mQ×List LE×Nat->List O
 |(.met _ _ ns,lg,_)=>[dz lg,.list true (ns.map xQ)]
 |(.nope _,lg,_)=>[dz lg]
 |(.raised,lg,_)=>[dz lg]
def pU(mk:Bool)(s:Str)(nd:Nd)(an:Bool)(lim:Nat)(x:mQ×List LE×Nat):Prop:=match mk with
 |true=>Cz s (eA nd) lim (dJ s an) 0 [] 0=some x
 |false=>CC s nd lim (dJ s an) 0 [] 0=some x
section
variable{mk an:Bool}
theorem El{b:Bs}(G:dI b){s:Str}{p q:Nd}{lim:Nat}{x:mQ×List LE×Nat}(hs:s.length<=8)(hlim:lim<990)(hn:fZ (.cat p q)<100)(h:pU mk s (.cat p q) an lim x)(hr:∀l t,x≠(.raised,l,t)):
  Ct b 160 (LO mk) [d6 0 (.cat p q),.str true s,.bool an,.obj 1] [cY,dG lim 0,valO [],.list true [],dz []] (C6 5 x.1) ([cY,dG lim x.2.2,valO x.2.1,.list true [],dz x.2.1]++rM x.1):=by
 cases mk with
 |true=>exact MA G hs hlim hn h (aJ _) (aJ _) hr
 |false=>exact Ga G hs hlim h (aJ _) (aJ _) hr
theorem EN{b:Bs}(G:dI b){EI:eW}(SX:im b EI){s:Str}{p q:Nd}{lim:Nat}{lg:List LE}{st:Nat}(hs:s.length<=8)(hlim:lim<990)(hn:fZ (.cat p q)<100)(h:pU mk s (.cat p q) an lim (.raised,lg,st)):
  eU ((C b).at 160) EI (LO mk) [d6 0 (.cat p q),.str true s,.bool an,.obj 1] [cY,dG lim 0,valO [],.list true [],dz []] [cY,dG lim st,valO lg,.list true [],dz lg]:=by
 cases mk with
 |true=>exact L0 G hs hlim hn SX h (aJ _) (aJ _)
 |false=>
  have:=Gk G hs hlim SX h (aJ _) (aJ _);exact λA xs s ρ l E rm=>this A xs s ρ l E (rm.less (show 150<=160 by decide))
theorem FrR.h{f:Nat->Option Nat}{nd:Nd}{s:Str}{lim:Int}{tl tl':List (Nm×V)}(h0:f 0=some 0)(k:FrR f (u8 mk (d6 0 nd) s an lim tl) tl'):FrR f (u8 mk (d6 0 nd) s an lim tl) (u8 mk (d6 0 nd) s an lim tl'):=
 .k rfl .b (.k rfl (.nd h0 nd) (.k rfl .s (.k rfl .b (.k rfl .i k))))
abbrev M7(F c2 c3:O)(mk:Bool)(nd:V)(s:Str)(an:Bool)(lim:Int):List O:=[cY,F,c2,c3,.frame (u8 mk nd s an lim [(dt,.obj 7)]),.dict [],.list true [],.inst 576 [(gw,.obj 5),(dK,.int true lim),(fS,.obj 6),(gL,.int false 0),(eP,.obj 9)],.frame [(cV,.obj 7),(gw,.obj 5),(dK,.int true lim),(fS,.obj 6)],.list true []]
theorem G0{b:Bs}{F c2 c3:O}(hF:fx 4 F)(h2:fx 4 c2)(h3:fx 4 c3)(mk:Bool)(nd:Nd)(s:Str)(an:Bool)(lim:Int):
  dg (C b) 5 (fb [0,1,2,3,4,7,5,6,9]) (M7 F c2 c3 mk (d6 0 nd) s an lim) (·=iG cY F c2 c3 (pP mk (d6 0 nd) s an lim) (eF lim 0) (valO []) (dz []) []):=by
 have h4:∀i,i<4->fb [0,1,2,3,4,7,5,6,9] i=some i:=by decide
 exact dg.sel (I':=[cY,F,c2,c3,.frame (u8 mk (d6 0 nd) s an lim [(dt,.obj 7)]),.inst 576 [(gw,.obj 5),(dK,.int true lim),(fS,.obj 6),(gL,.int false 0),(eP,.obj 9)],.dict [],.list true [],.list true []]) rfl () (fj rfl)
  (.k .ref (.k (hF _ h4) (.k (h2 _ h4) (.k (h3 _ h4) (.k (.f (.h (by rfl) (.k rfl (.o (by rfl)) .z))) (.k (.x (.k (.o (by rfl)) (.k .i (.k (.o (by rfl)) (.k .i (.k (.o (by rfl)) .z)))))) (.k .d (.k (.l .z) (.k (.l .z) .z)))))))))
end
theorem wh{b:Bs}{F c2 c3:O}(hF:fx 4 F)(h2:fx 4 c2)(h3:fx 4 c3){fr:List (Nm×V)}{H D:O}{lg:List LE}:dg (C b) 4 (fb [0,1,2,3,8]) (iG cY F c2 c3 fr H D (dz lg) []) (·=[cY,F,c2,c3,dz lg]):=by
 have h4:∀i,i<4->fb [0,1,2,3,8] i=some i:=by decide
 exact dg.sel (I':=[cY,F,c2,c3,dz lg]) rfl () (fj rfl) (.k .ref (.k (hF _ h4) (.k (h2 _ h4) (.k (h3 _ h4) (.k (.log lg) .z)))))
theorem Bc{b:Bs}{F c2 c3:O}(hF:fx 4 F)(h2:fx 4 c2)(h3:fx 4 c3){fr:List (Nm×V)}{H D N:O}{lg:List LE}{ns:List Str}:dg (C b) 4 (fb [0,1,2,3,8,10]) (iG cY F c2 c3 fr H D (dz lg) [N,.list true (ns.map xQ)]) (·=[cY,F,c2,c3,dz lg,.list true (ns.map xQ)]):=by
 have h4:∀i,i<4->fb [0,1,2,3,8,10] i=some i:=by decide
 exact dg.sel (I':=[cY,F,c2,c3,dz lg,.list true (ns.map xQ)]) rfl () (fj rfl) (.k .ref (.k (hF _ h4) (.k (h2 _ h4) (.k (h3 _ h4) (.k (.log lg) (.k (.l (.map' _ λx I=>.t (.k .s (.k .s .z)))) .z))))))
abbrev zO(y:Stmt):List ExceptHandler:=[.ExceptHandler (some (.Name (nmT gF) (kQ (oE (nY (JX y)).t)))) (some (nmT lE)) [bE zM (J4 (nY (JX y)).b)] (nY (JX y)).p]
theorem I5{c:Prop}[Decidable c]{a b:Prop}(h:c->a)(k:¬c->b):if c then a else b:=if z:c then(if_pos z).symm▸h z else(if_neg z).symm▸k z
nonrec theorem GD{b:Bs}{mk:Bool}{s:Str}{p q:Nd}{an:Bool}{lim:Nat}{lg:List LE}{st:Nat}{F c2 c3:O}(G:dI b)(XFc:XF (C b))(SF:oY (C b))(HF:mu (C b)){y:mQ}(hs:s.length<=8)(hlim:lim<990)(hn:fZ (.cat p q)<100)(h:pU mk s (.cat p q) an lim (y,lg,st))(hz:∀j e ns,y= .met j e ns->ns.length<=1000)(hF:fx 4 F)(h2:fx 4 c2)(h3:fx 4 c3):HN ((C b).at 201) 676 [.bool mk,d6 0 (.cat p q),.str true s,.bool an,.int true lim] [cY,F,c2,c3] (Eg lim (y,lg,st)) ([cY,F,c2,c3]++kl (y,lg,st)):=by
 obtain⟨fd,bd,K,ck⟩:=HF;obtain⟨y1,y2,y3,y4,rfl,⟨⟨ci,_⟩,cg,ce,_⟩,⟨m1,m2,m3,m4,_⟩,m5,_⟩:∃y1 y2 y3 y4,bd=[y1,bE xI y2,y3,bE rO y4]/\fE fd.scope xI y2/\fE fd.scope rO y4:=⟨_,_,_,_,(qE ck).1,(qE ck).2.2.1,(qE ck).2.2.2.2.1⟩
 have k1:gI nmT fd.scope (lR gm 0) y1:=(cW (cW K.chk).1).2;have kc:gI nmT fd.scope (lR gm 2) y3:=(cW (cW (cW (cW K.chk).2).2).1).2;obtain⟨tt,a',b',pi,ei,ti,ta,tb⟩:=pD _ _ (show gI nmT fd.scope (.ite (.loc dR) [.asg dj (xf iV)] [.asg dj (xf ku)]) (J4 (sW y2))=true from ci);obtain⟨ya,ra,rfl,ta1,e⟩:=hG _ _ ta;obtain rfl:=oU _ _ e;obtain⟨yb,rb,rfl,tb1,e⟩:=hG _ _ tb;obtain rfl:=oU _ _ e;have e2:bE xI y2= .Try [.If tt [ya] [yb] pi] (zO y2) [] [] (sQ y2):=az (λz=>Stmt.Try [z] (zO y2) [] [] (sQ y2)) ei;rw[e2] at K;have pre:∀(A:Around) (env:Env) (s0:Shared) (ρ:List Addr) (l:List Env) (Q:Flow->Shared->Prop) (E:Value->Shared->Prop),ee A 200->dE env 4 ρ->env.scope=fd.scope->env.frame=some env.locals->(C b).R ρ [cY,F,c2,c3,.frame (u8 mk (d6 0 (.cat p q)) s an lim [])] s0.heap->
   iZ (C b).h₀ (env::l) A ρ [cY,F,c2,c3,.frame (u8 mk (d6 0 (.cat p q)) s an lim [])] s0.heap->(∀L∈(env::l).filterMap (·.frame),L∈dA ρ [cY,F,c2,c3,.frame (u8 mk (d6 0 (.cat p q)) s an lim [])])->
   ((y≠ .raised)->∀ρ' s',(C b).Rs ρ [cY,F,c2,c3,.frame (u8 mk (d6 0 (.cat p q)) s an lim [])] s0 ρ' (iG cY F c2 c3 (q7 mk (d6 0 (.cat p q)) s an lim (C6 9 y)) (eF (lim:Int) (st:Int)) (valO lg) (dz lg) (rM y)) s'->dE env 4 ρ'->wpAny (C b).M A (execs [y3,bE rO y4] env) Q E s')->
   (y= .raised->∀ρ' s' y,(C b).Rs ρ [cY,F,c2,c3,.frame (u8 mk (d6 0 (.cat p q)) s an lim [])] s0 ρ' (iG cY F c2 c3 [] (eF (lim:Int) (st:Int)) (valO lg) (dz lg) []) s'->dH ρ' s'.heap (.tup [.tup [.str true hV,.int true 22,.int true (st:Int)],.obj 8]) y->Q (.ret y) s')->
   wpAny (C b).M A (execs [y1,.Try [.If tt [ya] [yb] pi] (zO y2) [] [] (sQ y2),y3,bE rO y4] env) Q E s0:=by
  intro A env s0 ρ l Q E rm en sc ef R fr al q1 q2;refine ak (jJ G (L4 _ _ 0 cY F c2 c3 mk (d6 0 (.cat p q)) s an lim) trivial rfl (rm.less ()) en (by rw[sc];exact k1) R λρ1 s1 fl r1 v1=>?_);cases v1;obtain⟨ρ2,σ2,rfl,r2,_,keep2,_⟩:=eR.tell (c:=C b) r1 (G0 hF h2 h3 mk (.cat p q) s an lim) (ao _) R.len;have en2:dE env 4 ρ2:=⟨en.kind,keep2 4 _ () (r1.grow _ _ en.loc),en.glob,en.blt⟩
  have fr2:=fr.res (c:=C b) r2;have br:∀(yy:Stmt) (ρ2:List Addr) (s3:Shared),dE env 4 ρ2->gI nmT fd.scope (.asg dj (xf (gN mk))) yy=true->
    (C b).Rs ρ [cY,F,c2,c3,.frame (u8 mk (d6 0 (.cat p q)) s an lim [])] s0 ρ2 (iG cY F c2 c3 (pP mk (d6 0 (.cat p q)) s an lim) (eF lim 0) (valO []) (dz []) []) s3->
    ∀(Q':Flow->Shared->Prop) (E':Value->Shared->Prop),
    ((y≠ .raised)->∀ρ' s',(C b).Rs ρ [cY,F,c2,c3,.frame (u8 mk (d6 0 (.cat p q)) s an lim [])] s0 ρ' (iG cY F c2 c3 (q7 mk (d6 0 (.cat p q)) s an lim (C6 9 y)) (eF (lim:Int) (st:Int)) (valO lg) (dz lg) (rM y)) s'->dE env 4 ρ'->Q' .next s')->
    (y= .raised->∀ρ' s' a,d9 (C b) (JT (C b)) (env::l) ρ2 (iG cY F c2 c3 (pP mk (d6 0 (.cat p q)) s an lim) (eF lim 0) (valO []) (dz []) []) s3 (iG cY F c2 c3 (pP mk (d6 0 (.cat p q)) s an lim) (eF lim st) (valO lg) (dz lg) []) ρ' a s'->E' (.ref a) s')->
    wpAny (C b).M A (execs [yy] env) Q' E' s3:=by
   intro yy ρ2 s3 en2 cy r3 Q' E' hN hR;have xy:=fr.res (c:=C b) r3
   by_cases z:y= .raised
   .obtain⟨pz,v,p',rfl,hl,nc,cv⟩:=vC _ _ cy
    refine ak (cA ?_ (gA nc _ _ _));exact CR G (LZ ..) ⟨Lz G (EN G (DL G XFc SF) hs hlim hn (z▸h)) F c2 c3 (pP mk (d6 0 (.cat p q)) s an lim),N4⟩ () (rm.less ()) en2 (by rw[sc];exact cv) r3.rel xy λρ4 s4 a rz=>hR z ρ4 s4 a rz
   .refine ak (jJ G (Mh ..) ⟨Mu G (El G hs hlim hn h λl t e=>z (az Prod.fst e)) F c2 c3 (pP mk (d6 0 (.cat p q)) s an lim),N4⟩ () (rm.less ()) en2 (by rw[sc];exact cy) r3.rel λρ4 s4 fl r4 v4=>?_)
    cases v4;exact aM (hN z ρ4 s4 (r3.trans r4) (en2.grow r4.grow))
  refine ak (wpAny_Try_except (ak (wpAny_If (oB G (Mj _ _ 0 cY F c2 c3 _ _ _ mk (d6 0 (.cat p q)) s an lim []) trivial rfl (rm.less ()) en2 (by rw[sc];exact ti) r2.rel λρ3 s3 r3=>?_))));have r23:=r2.trans r3;have xy:=fr.res (c:=C b) r23;have hR:y= .raised->∀ρ' s' a,d9 (C b) (JT (C b)) (env::l) ρ3 (iG cY F c2 c3 (pP mk (d6 0 (.cat p q)) s an lim) (eF lim 0) (valO []) (dz []) []) s3 (iG cY F c2 c3 (pP mk (d6 0 (.cat p q)) s an lim) (eF lim st) (valO lg) (dz lg) []) ρ' a s'->
    wpAny (C b).M A (noteFrame (.ref a) env) (λI s₂=>wpAny (C b).M A (setFlight (.ref a) none) (λI s₃=>wpAny (C b).M A (handleBy (.ref a) env (zO y2)) (λf s₁=>match f with | .next=>wpAny (C b).M A (execs [y3,bE rO y4] env) Q E s₁ | f=>Q f s₁) E s₃) E s₂) E s':=by
   intro hx ρ4 s4 a rz;refine d9.noted rz fr.fr ef λs5 rz=>?_;have al3:∀L∈(env::l).filterMap (·.frame),L∈dA ρ3 (iG cY F c2 c3 (pP mk (d6 0 (.cat p q)) s an lim) (eF lim 0) (valO []) (dz []) []):=λL m=>by
    obtain⟨i,bb,e1,e2⟩:=fr.ap L m (al L m);obtain⟨b',e3⟩:=r23.frm i bb e2;exact dC.mpr ⟨i,L,_,r23.grow _ _ e1,e3,.head _⟩
   have g4:eB ρ3 ρ4:=by obtain⟨sm,fs,r,_⟩:=rz;exact r.grow
   refine gE G XFc rz r23.rel al3 ((en2.grow r3.grow).grow g4) ef (by rw[sc];exact cg) (by rw[sc];exact ce) λρ5 s5 y5 r5 v5=>?_;exact q2 hx ρ5 s5 y5 (r23.trans r5) v5
  refine I5 (λe=>?_) λe=>?_
  .exact br ya ρ3 s3 (en2.grow r3.grow) (by rw[e];exact ta1) r23 _ _ (λz ρ' s' r' e'=>aM (aM (q1 z ρ' s' r' e'))) hR
  .exact br yb ρ3 s3 (en2.grow r3.grow) (by rw[Bool.eq_false_iff.mpr e];exact tb1) r23 _ _ (λz ρ' s' r' e'=>aM (aM (q1 z ρ' s' r' e'))) hR
 cases y with
 |raised=>
  refine mn (n:=200) G.X K (b:=u8 mk (d6 0 (.cat p q)) s an lim []) rfl (wh hF h2 h3 (fr:=[]) (H:=eF (lim:Int) (st:Int)) (D:=valO lg) (lg:=lg)) (v:=.tup [.tup [.str true hV,.int true 22,.int true (st:Int)],.obj 8]) (.t (.k (.t (.k .s (.k .i (.k .i .z)))) (.k (.o rfl) .z))) ?_;intro A env s0 ρ l Q E rm en sc ef R fr al Hq;refine pre A env s0 ρ l Q E rm en sc ef R fr al (λh=>absurd rfl h) λe ρ' s' y r v=>Hq ρ' s' y r v
 |nope k=>
  refine mn (n:=200) G.X K (b:=u8 mk (d6 0 (.cat p q)) s an lim []) rfl (wh hF h2 h3 (fr:=q7 mk (d6 0 (.cat p q)) s an lim .none) (H:=eF (lim:Int) (st:Int)) (D:=valO lg) (lg:=lg)) (v:=.tup [.tup [.str false js],.obj 8]) (.t (.k (.t (.k .s .z)) (.k (.o rfl) .z))) ?_;intro A env s0 ρ l Q E rm en sc ef R fr al Hq;refine pre A env s0 ρ l Q E rm en sc ef R fr al (λI ρ' s' r' en'=>?_) λe=>nomatch e
  refine ak (jJ G (K9 _ _ 0 cY F c2 c3 _ _ mk (d6 0 (.cat p q)) s an lim st) trivial rfl (rm.less ()) en' (by rw[sc];exact kc) r'.rel λρ1 s1 fl r1 v1=>?_);obtain⟨y,rfl,vy⟩:=v1;exact Hq ρ1 s1 y (r'.trans r1) vy
 |met j e ns=>
  refine mn (n:=200) G.X K (b:=u8 mk (d6 0 (.cat p q)) s an lim []) rfl (Bc hF h2 h3 (fr:=q7 mk (d6 0 (.cat p q)) s an lim (lL j e)) (H:=eF (lim:Int) (st:Int)) (D:=valO lg) (N:=.list true (ns.map iC)) (lg:=lg) (ns:=ns)) (v:=.tup [.tup [.str false lV,.int true (j:Int),.int true (e:Int),.obj 10],.obj 8]) (.t (.k (.t (.k .s (.k .i (.k .i (.k (.o rfl) .z))))) (.k (.o rfl) .z))) ?_;intro A env s0 ρ l Q E rm en sc ef R fr al Hq;refine pre A env s0 ρ l Q E rm en sc ef R fr al (λI ρ' s' r' en'=>?_) λe=>nomatch e
  refine ak (jJ G (K6 _ _ 0 cY F c2 c3 _ _ mk (d6 0 (.cat p q)) s an lim st j e (.list true (ns.map iC))) trivial rfl (rm.less ()) en' (by rw[sc];exact kc) r'.rel λρ1 s1 fl r1 v1=>?_);cases v1;have en1:=en'.grow r1.grow;have nS:∀{m:ME} {x:Expr} {xs:List Expr},dO nmT fd.scope m x=true->starEach (x::xs) env=(false,eval x env)::starEach xs env:=λh=>ez (gP _ _ _ _ h);refine ak (wpAny_Return_some (po (aF (po (aF ?_ (nS m1))))));refine jf G (Kj _ _ 0 cY F c2 c3 _ _ _ mk (d6 0 (.cat p q)) s an lim j e [.list true (ns.map iC)]) trivial rfl (rm.less ()) en1 (by rw[sc];exact m1) r1.rel λρ2 s2 x2 r2 v2=>aF ?_ (nS m2);refine jf G (Kn _ _ 0 cY F c2 c3 _ _ _ mk (d6 0 (.cat p q)) s an lim j e [.list true (ns.map iC)]) trivial rfl (rm.less ()) (en1.grow r2.grow) (by rw[sc];exact m2) r2.rel λρ3 s3 x3 r3 v3=>aF ?_ (nS m3);refine jf G (Kp _ _ 0 cY F c2 c3 _ _ _ mk (d6 0 (.cat p q)) s an lim j e [.list true (ns.map iC)]) trivial rfl (rm.less ()) ((en1.grow r2.grow).grow r3.grow) (by rw[sc];exact m3) r3.rel λρ4 s4 x4 r4 v4=>aF ?_ (ez rfl);have en4:=((en1.grow r2.grow).grow r3.grow).grow r4.grow;refine yo G (mk:=mk) (an:=an) (nd:=d6 0 (.cat p q)) (sb:=s) (lim:=lim) (bg:=j) (en:=e) (ns:=ns) (F:=F) (c2:=c2) (c3:=c3) (rm.less ()) en4 (by rw[sc];exact m4) (hz j e ns rfl) r4.rel ?_ λρ5 s5 x5 r5 v5=>aN ?_
  .intro o m
   have d:∀{o:O} {l:List O} {P:O->Prop},P o->(∀x∈l,P x)->∀x∈o::l,P x:=λa b x m=>by
    rcases aD.mp m with rfl | m
    .exact a
    .exact b x m
   refine d fx.ref (d (hF.more ()) (d (h2.more ()) (d (h3.more ()) (d ?_ (d ?_ (d ?_ (d ?_ (d ?_ (d ?_ λI m=>by cases m))))))))) o m
   .exact λf hf=>.f (.h (hf 0 ()) (.k rfl (.o (hf 5 ())) (.k rfl (.t (.k .i (.k .i (.k (.o (hf 9 ())) .z)))) .z)))
   .exact λf hf=>.x (.k (.o (hf 6 ())) (.k .i (.k (.o (hf 7 ())) (.k .i (.k (.o (hf 8 ())) .z)))))
   .exact λf hf=>.valO lg
   .exact λf hf=>.l .z
   .exact λf hf=>.log lg
   .exact λf hf=>.l (.nps (hf 0 ()) ns)
  have w2:=r5.v r4.rel (r4.v r3.rel (r3.v r2.rel v2));have w3:=r5.v r4.rel (r4.v r3.rel v3);have w4:=r5.v r4.rel v4;refine⟨ρ5,_,[.str false lV,.int true j,.int true e,.obj 10],r5.rel,⟨_,_,rfl,w2,_,_,rfl,w3,_,_,rfl,w4,_,_,rfl,v5,rfl⟩,by show 4<=1000;decide,λs6 y6 r6 v6=>aF ?_ (nS m5)⟩;refine jf G (KS _ _ 0 cY F c2 c3 _ _ mk (d6 0 (.cat p q)) s an lim st j e [.list true (ns.map iC),.list true (ns.map xQ)]) trivial rfl (rm.less ()) (en4.grow r5.grow) (by rw[sc];exact m5) r6.rel λρ7 s7 x7 r7 v7=>aN ?_;refine⟨ρ7,_,[.tup [.str false lV,.int true j,.int true e,.obj 10],.obj 8],r7.rel,⟨_,_,rfl,r7.v r6.rel v6,_,_,rfl,v7,rfl⟩,by show 2<=1000;decide,λs8 y8 r8 v8=>?_⟩;exact Hq ρ7 s8 y8 (((((((r'.trans r1).trans r2).trans r3).trans r4).trans r5).trans r6).trans (r7.trans r8)) v8
structure gR(env:Env)(ρ:List Addr)(σ:List O)(h:Heap)(n:Nm)(i:Nat):Prop where
 kind:env.scope.names.lookup (nmT n)=some .cell
 ex:∃ca a,env.cells.lookup (nmT n)=some ca/\h.IsCell ca (some (.ref a))/\nth ρ i=some a/\ca∉dA ρ σ
section
variable{b:Bs} {env:Env} {ρ:List Addr} {s:Shared} {fi:Nat}
theorem gR.res{ρ':List Addr}{σ σ':List O}{s':Shared}{n:Nm}{i:Nat}(v:gR env ρ σ s.heap n i)(r:(C b).Rs ρ σ s ρ' σ' s'):gR env ρ' σ' s'.heap n i:=by
 obtain⟨k,ca,a,h1,⟨o,h2,h2'⟩,h3,h4⟩:=v;refine⟨k,ca,a,h1,⟨o,r.keep ca o h2 h4,h2'⟩,r.grow _ _ h3,λm=>?_⟩;rcases r.fresh ca m with m | m
 .exact h4 m
 .rw[m] at h2;cases h2
theorem gR.load{σ:List O}{n:Nm}{i:Nat}{A:Around}{E:Value->Shared->Prop}{pos:Pos}{Q:Value->Shared->Prop}(v:gR env ρ σ s.heap n i)(en:dE env fi ρ)(hd:(nmT n==("__debug__":Str))=false)(q:∀y,dH ρ s.heap (.obj i) y->Q y s):wpAny (C b).M A (eval (.Name (nmT n) pos) env) Q E s:=by
 obtain⟨k,ca,a,h1,h2,h3,h4⟩:=v;exact wpAny_Name (wpAny_loadName_cell en.kind k h1 h2 (q _ ⟨a,by rw[<-dP];exact h3,rfl⟩)) hd
abbrev qh(k:Int):Sk Expr:=.call (.glb j8) (.l [.nm ey,.cst (.int k)])
abbrev yE:Sk Expr:=.call (.glb qG) (.l [.nm ey,.nm eH])
abbrev e7(fr:List (Nm×V))(p:List Int×Int)(tl:List O):List O:=.frame fr::fg p.1::gM 1 p.2::tl
theorem rA:(nmT ey==("__debug__":Str))=false:=by walk_at"k"
theorem Fr:(nmT eH==("__debug__":Str))=false:=by walk_at"k"
theorem ng{A:Around}{E:Value->Shared->Prop}(G:dI b){fr:List (Nm×V)}{p:List Int×Int}{tl:List O}{k:Int}{e:Expr}{Q:Value->Shared->Prop}(rm:ee A 30)(en:dE env fi ρ)(ck:fE env.scope (qh k) e)(h:ik p)(hk:k≠0)(R:(C b).R ρ (e7 fr p tl) s.heap)(cv:gR env ρ (e7 fr p tl) s.heap ey 2)
  (q:∀ρ' s' y,(C b).Rs ρ (e7 fr p tl) s ρ' (e7 fr (take k p).2 tl) s'->dH ρ' s'.heap (.int true (take k p).1) y->Q y s'):wpAny (C b).M A (eval (bE (qh k) e) env) Q E s:=by
 have ck:=ck.1;refine bH (g9 (c:=C b) (st:=⟨_,[],[]⟩) G.X (n:=j8) (v:=.val (.ref 643)) rfl en ck.1 ck.2 R λy vy=>?_);obtain⟨rfl,_⟩:=vy;refine callWith_of (P:=λh=>(C b).K.In h) rfl (keeps_K (dD G (l:=[643]) rfl 643 rfl)) (cu (aF (cv.load en rA λy vy=>aF (aR (aN ⟨?_,cR ?_⟩)))))
 .exact G.X.In (h:=s.heap) R
 .have T:=yu G (lim:=k) (os:=e7 fr p tl) (i:=2) (j:=1) h hk rfl rfl ()
  rw[aQ] at T;have r0:=eR.more0 (s':={s with toks:=s.toks+1}) R (λI I e=>e) rfl rfl;exact T A _ _ ρ Q E (rm.less (show 20<=30 by decide)) r0.rel (λI I e=>by cases e) (.cons vy (.cons ⟨_,rfl⟩ .nil)) λρ' s' y r v=>q ρ' s' y (r0.trans r) v
theorem Jy(G:dI b){p:List Int×Int}(h:ik p)(fr:List (Nm×V))(tl:List O):Ct b 50 650 [.obj 2,.obj 3] (e7 fr p (cY::tl)) (db 3 (gj p).1) (e7 fr (gj p).2 (cY::tl)):=by
 have q:=fJ.frame (l:=[3,2,1]) (os:=e7 fr p (cY::tl)) (I':=[cY,gM 1 p.2,fg p.1]) (news:=[cY,gM 1 (gj p).2.2,fg (gj p).2.1]) (vs:=[.obj 2,.obj 3]) (w:=db 3 (gj p).1) rfl (IJ G h cY .ref) rfl ()
  (.k .ref (.k (.l (.k (.o rfl) (.k .i .z))) (.k (.l (.ints _)) .z))) (.k (.o rfl) (.k (.o rfl) .z))
  (.k .ref (.k (.l (.k (.o rfl) (.k .i .z))) (.k (.l (.ints _)) .z))) (.part (r:=0) (r':=3) rfl (gj p).1)
 have e:fG (e7 fr p (cY::tl)) [3,2,1] (List.take [3,2,1].length [cY,gM 1 (gj p).2.2,fg (gj p).2.1])++List.drop [3,2,1].length [cY,gM 1 (gj p).2.2,fg (gj p).2.1]=e7 fr (gj p).2 (cY::tl):=aQ _;rw[e] at q;exact q
theorem BI{A:Around}{E:Value->Shared->Prop}(G:dI b){fr:List (Nm×V)}{p:List Int×Int}{tl:List O}{e:Expr}{Q:Value->Shared->Prop}(rm:ee A 60)(en:dE env fi ρ)(ck:fE env.scope yE e)(h:ik p)(R:(C b).R ρ (e7 fr p (cY::tl)) s.heap)(cv:gR env ρ (e7 fr p (cY::tl)) s.heap ey 2)(cr:gR env ρ (e7 fr p (cY::tl)) s.heap eH 3)
  (q:∀ρ' s' y,(C b).Rs ρ (e7 fr p (cY::tl)) s ρ' (e7 fr (gj p).2 (cY::tl)) s'->dH ρ' s'.heap (db 3 (gj p).1) y->Q y s'):wpAny (C b).M A (eval (bE yE e) env) Q E s:=by
 have ck:=ck.1;refine bH (g9 (c:=C b) (st:=⟨_,[],[]⟩) G.X (n:=qG) (v:=.val (.ref 650)) rfl en ck.1 ck.2 R λy vy=>?_);obtain⟨rfl,_⟩:=vy;refine callWith_of (P:=λh=>(C b).K.In h) rfl (keeps_K (dD G (l:=[650]) rfl 650 rfl)) (cu (aF (cv.load en rA λy vy=>aF (cr.load en Fr λz vz=>aN ⟨?_,cR ?_⟩))))
 .exact G.X.In (h:=s.heap) R
 .exact Jy G h fr tl A _ _ ρ Q E (rm.less (show 50<=60 by decide)) R (λI I e=>by cases e) (.cons vy (.cons vz .nil)) q
end
theorem yS{scope:Scope}{env:Env}(hk:env.scope.kind= .function)(h:∀y∈scope.names,y.2= .free->env.kindOf y.1=some .cell):relabel scope env=uW scope:=by
 unfold relabel uW;congr 1;refine List.map_congr_left λy m=>?_;obtain⟨n,k⟩:=y;dsimp only
 by_cases z:k= .free
 .subst z
  have:=h _ m rfl;dsimp only at this;rw[this,hk];rfl
 .have:(k==NameKind.free)=false:=by simpa using z
  rw[this];simp
theorem pQ{env:Env}(f:Str×NameKind->List (Str×Addr)->Sem (ForInStep (List (Str×Addr))))
  (hf:∀name kind cells,f (name,kind) cells=if kind== .free then(do let a <-cellOf env name;pure (.yield ((name,a)::cells))) else pure (.yield cells)):
  ∀(names:List (Str×NameKind)) (B':List (Str×Addr)),(∀y∈names,y.2= .free->∃a,env.cells.lookup y.1=some a)->(∀n a,B'.lookup n=some a->env.cells.lookup n=some a)->
   ∃cl,forIn names B' f=pure cl/\(∀n a,cl.lookup n=some a->env.cells.lookup n=some a)/\(∀n,(B'.lookup n).isSome=true->(cl.lookup n).isSome=true)/\∀y∈names,y.2= .free->(cl.lookup y.1).isSome=true
 |[],B',_,ha=>⟨B',by rw[List.forIn_nil],ha,λI h=>h,λI m=>by cases m⟩
 |(n,k)::r,B',h,ha=>by
  rw[List.forIn_cons,hf]
  by_cases z:k= .free
  .subst z
   obtain⟨a,e⟩:=h _ (.head _) rfl;dsimp only at e;obtain⟨cl,h1,h2,h3,h4⟩:=pQ f hf r ((n,a)::B') (λy m=>h y (.tail _ m)) (λn' a' q=>by
    rw[aW] at q;cases hb:n'==n with
    |true=>rw[hb] at q;cases q;rw[am.mp hb];exact e
    |false=>rw[hb] at q;exact ha _ _ q)
   have up:∀n',(B'.lookup n').isSome=true->(((n,a)::B').lookup n').isSome=true:=λn' q=>by
    rw[aW];cases hb:n'==n with
    |true=>rfl
    |false=>exact q
   refine⟨cl,?_,h2,λn' q=>h3 n' (up n' q),λy m=>?_⟩
   .rw[if_pos (show(NameKind.free==NameKind.free)=true from rfl)]
    unfold cellOf;rw[e];exact h1
   .rcases aD.mp m with rfl | m
    .intro _
     refine h3 _ ?_;show(((n,a)::B').lookup n).isSome=true;rw[aW,bC];rfl
    .exact h4 y m
  .have hz:(k==NameKind.free)=false:=by simpa using z
   obtain⟨cl,h1,h2,h3,h4⟩:=pQ f hf r B' (λy m=>h y (.tail _ m)) ha;refine⟨cl,?_,h2,h3,λy m=>?_⟩
   .rw[if_neg (by rw[hz];decide)]
    exact h1
   .rcases aD.mp m with rfl | m
    .exact λq=>absurd q z
    .exact h4 y m
theorem tL{scope:Scope}{env:Env}(h:∀y∈scope.names,y.2= .free->∃a,env.cells.lookup y.1=some a):∃cl,closureFor scope env=pure cl/\∀y∈scope.names,y.2= .free->cl.lookup y.1=env.cells.lookup y.1:=by
 obtain⟨cl,h1,h2,_,h4⟩:=pQ (env:=env) (λx r=>match x with | (name,kind)=>if(kind==NameKind.free)=true then(do let a <-cellOf env name;pure (.yield ((name,a)::r))) else pure (.yield r)) (λI I I=>rfl) scope.names [] h (λI I q=>by cases q);refine⟨cl,?_,λy m z=>?_⟩
 .simp only[closureFor]
  have e:∀(f g:Str×NameKind->List (Str×Addr)->Sem (ForInStep (List (Str×Addr)))),f=g->forIn scope.names [] g=pure cl->(forIn scope.names [] f >>= λr=>pure r)=(pure cl:Sem (List (Str×Addr))):=λf g q w=>by rw[q,w];rfl
  refine e _ _ ?_ h1;funext x r;obtain⟨n,k⟩:=x;cases hk:k==NameKind.free<;>simp [hk]
 .have:=h4 y m z
  obtain⟨a,e⟩:=Option.isSome_iff_exists.mp this;rw[e,h2 _ _ e]
structure IU(scope:Scope)(env:Env)(fr:List Nm):Prop where
 kind:scope.kind= .function
 cell:∀y∈scope.names,y.2≠ .cell
 names:∀y∈scope.names,y.2= .local->scope.names.lookup y.1=some .local
 rel:relabel scope env=uW scope
 clos:∃cl,closureFor scope env=pure cl/\∀C n,n∈fr->∀ρ σ h i,gR env ρ σ h n i->gR (compEnvC scope cl C env) ρ σ h n i
nonrec theorem pR{scope:Scope}{env:Env}{fr:List Nm}(hk:env.scope.kind= .function)(h:zI nmT scope fr)(hc:∀n∈fr,∃ρ σ h i,gR env ρ σ h n i):IU scope env fr:=by
 obtain⟨h,e⟩:=cW h;obtain⟨h,d⟩:=cW h;obtain⟨h,c⟩:=cW h;obtain⟨a,b⟩:=cW h;have b:=aT.mp b;have c:=aT.mp c;have d:=aT.mp d;have e:=aT.mp e;have fc:∀y∈scope.names,y.2= .free->∃ca,env.kindOf y.1=some .cell/\env.cells.lookup y.1=some ca:=λy m z=>by
  have:=d y m;rw[z] at this;obtain⟨n,hn,q⟩:=List.any_eq_true.mp (show(fr.any λn=>nmT n==y.1)=true from by simpa using this);obtain⟨_,_,_,_,cv,ca,_,h1,_⟩:=hc n hn;rw[am.mp q] at cv h1;exact⟨ca,cv,h1⟩
 have rel:=yS hk λy m z=>(fc y m z).choose_spec.1;refine⟨am.mp a,λy m z=>?_,λy m z=>?_,rel,?_⟩
 .have:=b y m;rw[z] at this;exact absurd this ()
 .have:=c y m
  rw[z] at this
  simpa using this
 .obtain⟨cl,h1,h2⟩:=tL λy m z=>⟨_,(fc y m z).choose_spec.2⟩
  refine⟨cl,h1,λCc n hn ρ σ h i v=>?_⟩;obtain⟨k1,k2⟩:=cW (e n hn);obtain⟨y,my,q⟩:=List.any_eq_true.mp k2;obtain⟨q1,q2⟩:=cW q;obtain⟨_,ca,a,e1,e2,e3,e4⟩:=v;refine⟨?_,ca,a,?_,e2,e3,e4⟩
  .show(relabel scope env).names.lookup (nmT n)=some .cell
   rw[rel];exact am.mp k1
  .show cl.lookup (nmT n)=some ca
   rw[<-am.mp q1,h2 y my (am.mp q2),am.mp q1];exact e1
nonrec theorem sv{b:Bs}{env:Env}{fi:Nat}{A:Around}{E:Value->Shared->Prop}{a f:Expr}{p:Pos}{ρ:List Addr}{σ σ1:List O}{m:Nat}{Q:Value->Shared->Prop}(G:dI b){s:Shared}(en:dE env fi ρ)(ck:fE env.scope (.glb gJ) f)(hs:pF a)(hm:m<2^60)(R:(C b).R ρ σ s.heap)(ha:∀Q':Value->Shared->Prop,(∀ρ1 s1 y,(C b).Rs ρ σ s ρ1 σ1 s1->dH ρ1 s1.heap (.int true (m:Int)) y->Q' y s1)->wpAny (C b).M A (eval a env) Q' E s)(q:∀ρ' s' ge,(C b).Rs ρ σ s ρ' σ1 s'->jF (.rng m) ge 0 ρ' s'.heap->ge∉dA ρ' σ1->(s.heap.get? ge=none\/ge∈dA ρ σ)->Q (.ref ge) s'):wpAny (C b).M A (eval (.Call (bE (.glb gJ) f) [a] [] p) env) (λv s1=>wpAny (C b).M A (pyIter v) Q E s1) E s:=by
 refine bH (g9 (c:=C b) (st:=⟨σ,[],[]⟩) (E:=E) G.X (n:=gJ) (v:=.bi 6) rfl en ck.1 ck.2 R λy1 v1=>?_);cases v1;have e1:starEach [a] env=(false,eval a env)::starEach [] env:=ez hs;have ea:∀{f:Value} {Q:Args->Shared->Prop},wpAny (C b).M A (spliced (backTo p (starEach [a] env))) (λvs s'=>Q ⟨vs,[]⟩ s') E s->wpAny (C b).M A (evalArgs f true (backTo p (starEach [a] env)) []) Q E s:=λq=>by
  rw[e1] at q ⊢;exact cu q
 refine cE (by rw[e1];rfl) (ea (aF (ha _ λρ1 s1 y1 r1 v1=>?_) e1));obtain⟨t,rfl⟩:=v1;refine aN ?_;refine call_range_1 ?_;refine wpAny_pyIter_range (IsRange.new _ _ _ _ _ _ _) (small_one (by omega) (by omega) (by omega) (by omega)) ?_;have k1:∀o b q,s1.heap.get? b=some q->(s1.heap.push o).get? b=some q:=λo b q e=>ae _ e;refine q ρ1 _ _ (r1.trans (eR.more0 r1.rel (λb o e=>ae _ (ae _ e)) rfl rfl)) ?_ (λmm=>?_) ?_
 .show IsRangeIter _ _ _ _ _
  have sz:Builtin.Range.rangeSize 0 (m:Int) 1=(m:Int):=by rw[rangeSize_one];split<;>omega
  rw[sz,show(m:Int) - ((0:Nat):Int)=(m:Int) from by omega];exact aB _ rfl
 .obtain⟨o,e⟩:=r1.rel.there mm
  have h3:s1.heap.objs.size+1<s1.heap.objs.size:=by have:=ay e;rwa [bB] at this
  exact absurd h3 (cF.mpr (au _))
 .by_cases mm:(s1.heap.push {cls:=Value.type "range",data:=Data.fields #[Value.int 0 s1.toks,Value.int (m:Int) t,Value.int 1 (s1.toks+1)]}).objs.size∈dA ρ σ
  .exact .inr mm
  .refine .inl ?_
   cases e:s.heap.get? (s1.heap.push {cls:=Value.type "range",data:=Data.fields #[Value.int 0 s1.toks,Value.int (m:Int) t,Value.int 1 (s1.toks+1)]}).objs.size with
   |none=>rfl
   |some o=>
    have h3:s1.heap.objs.size+1<s1.heap.objs.size:=by have:=ay (r1.keep _ o e mm);rwa [bB] at this
    exact absurd h3 (cF.mpr (au _))
abbrev AB(i k:Int):Sk Expr:=.bin (.cst (.int i)) .Add (qh k)
theorem xa{b:Bs}{env:Env}{fi:Nat}{A:Around}{E:Value->Shared->Prop}(G:dI b){fr:List (Nm×V)}{p:List Int×Int}{tl:List O}{i k:Int}{e:Expr}{s:Shared}{ρ:List Addr}{Q:Value->Shared->Prop}(rm:ee A 30)(en:dE env fi ρ)(ck:fE env.scope (AB i k) e)(h:ik p)(hk:k≠0)(R:(C b).R ρ (e7 fr p tl) s.heap)(cv:gR env ρ (e7 fr p tl) s.heap ey 2)
  (q:∀ρ' s' y,(C b).Rs ρ (e7 fr p tl) s ρ' (e7 fr (take k p).2 tl) s'->dH ρ' s'.heap (.int true (i+(take k p).1)) y->Q y s'):wpAny (C b).M A (eval (bE (AB i k) e) env) Q E s:=by
 refine cQ (aR ?_);have r0:=eR.more0 (s':={s with toks:=s.toks+1}) R (λI I e=>e) rfl rfl;refine ng (s:={s with toks:=s.toks+1}) G rm en ck.2 h hk R cv λρ1 s1 y r1 v1=>?_;obtain⟨t1,rfl⟩:=v1;exact add_int (q _ _ _ ((r0.trans r1).trans (eR.more r1.rel (λI I e=>e) rfl rfl (ao _))) ⟨_,rfl⟩)
def d7:Nat->List Int×Int->List dZ×List Int×Int
 |0,p=>([],p)
 |n+1,p=>((d7 n p).1++[(gj (d7 n p).2).1],(gj (d7 n p).2).2)
theorem kn:∀n p,(d7 n p).1.length=n
 |0,_=>rfl
 |n+1,p=>by show((d7 n p).1++[_]).length=_;rw[ai,kn n p];rfl
theorem lc{p:List Int×Int}(h:ik p):∀n,ik (d7 n p).2
 |0=>h
 |n+1=>Cg (lc h n)
abbrev ri(n:Nm)(k:Int):Sk Stmt:=.asgC n (.comp yE (.call (.glb gJ) (.l [AB 1 k])) kq [ey,eH])
section
variable{k:Nat}
theorem fx.inn(xs:List Int):fx k (fg xs):=λf I=>.l (.ints _)
theorem fx.box{z:Int}(h:1<k):fx k (gM 1 z):=λf hf=>.l (.k (.o (hf 1 h)) (.k .i .z))
theorem fx.parts{r:Nat}(h:r<k)(ps:List dZ):fx k (.list true (ps.map (db r))):=λf hf=>.l (.map' _ λx I=>.part (hf r h) x)
theorem ie{α:Type}{P:α->Prop}{o:α}{l:List α}(a:P o)(b:∀x∈l,P x):∀x∈o::l,P x:=λx m=>by
 rcases aD.mp m with rfl | m
 .exact a
 .exact b x m
theorem rZ{fr:List (Nm×V)}{p:List Int×Int}{tl:List O}(h:1<k)(hf:fx k (.frame fr))(ht:∀o∈tl,fx k o):∀o∈e7 fr p tl,fx k o:=
 ie hf (ie (.inn _) (ie (.box h) ht))
theorem sX{τ:List O}{l:O}{fr:List (Nm×V)}{n:Nm}{v:V}:gQ ⟨τ++[l,.frame fr],[],[]⟩ (τ.length+1) n v=some ⟨τ++[l,.frame (jK n v fr)],[],[]⟩:=by
 unfold gQ;dsimp only;rw[mO];show some (mE ⟨τ++[l,.frame fr],[],[]⟩ (τ.length+1) (.frame (jK n v fr)))=_;unfold mE;dsimp only;rw[qz]
end
nonrec theorem rY{b:Bs}{env:Env}{A:Around}{E:Value->Shared->Prop}{fr:List (Nm×V)}{p:List Int×Int}{tl:List O}{n:Nm}{x:Stmt}{s:Shared}{ρ:List Addr}{Q:Flow->Shared->Prop}(G:dI b){k:Int}(rm:ee A 70)(en:dE env 0 ρ)(ck:fE env.scope (ri n k) x)(hb:ik p)(hk:0<k)(hk2:k<100)(R:(C b).R ρ (e7 fr p (cY::tl)) s.heap)(cv:gR env ρ (e7 fr p (cY::tl)) s.heap ey 2)(cr:gR env ρ (e7 fr p (cY::tl)) s.heap eH 3)(hS0:fx (5+tl.length) (.frame fr))(hS:fx (5+tl.length) (.frame (jK n (.obj (4+tl.length)) fr)))(hT:∀o∈tl,fx (5+tl.length) o)(q:∀ρ' s',(C b).Rs ρ (e7 fr p (cY::tl)) s ρ' (e7 (jK n (.obj (4+tl.length)) fr) (d7 (1+(take k p).1.toNat) (take k p).2).2 (cY::tl)++[.list true ((d7 (1+(take k p).1.toNat) (take k p).2).1.map (db 3))]) s'->Q .next s'):wpAny (C b).M A (exec (bE (ri n k) x) env) Q E s:=by
 obtain⟨hl,hp,hn,co,ht,⟨cf,ca,_⟩,ce⟩:=ck;have SC:=pR en.kind co λn m=>by
  rcases aD.mp m with rfl | m
  .exact⟨_,_,_,_,cv⟩
  .cases aj.mp m;exact⟨_,_,_,_,cr⟩
 obtain⟨cl,hcl,cvs⟩:=SC.clos;obtain⟨lk0,lk1⟩:=jD (lim:=k) hk p;have ht0:(take k p).1=((take k p).1.toNat:Int):=(Int.toNat_of_nonneg lk0).symm;have hm:(1:Int)+(take k p).1=((1+(take k p).1.toNat:Nat):Int):=by omega
 generalize hM:1+(take k p).1.toNat=m at hm q;have hm100:m<=100:=by omega
 have hb1:=je (lim:=k) hb;generalize hP:(take k p).2=p1 at hb1 q;have len:∀{fr} p',(e7 fr p' (cY::tl)).length=4+tl.length:=λp'=>by show tl.length+1+1+1+1=_;omega
 refine wS (c:=C b) G.X rm.handled ?_ hcl SC.cell SC.kind SC.names (λv=>rfl) ?_
 .unfold swapsWith
  show(pure (env.blockKind== .function&&env.kindOf (nmT n)==some .local&&(kQ (sG x)).line==(kQ (sV x)).line&& !((de (sV x)).s.names.any λ(n',k)=>n'==nmT n&&(k== .local||k== .cell))):Sem Bool)=pure true;rw[hn,show env.kindOf (nmT n)=some .local from hl,hp,show env.blockKind= .function from by unfold Env.blockKind;rw[en.kind];rfl];rfl
 refine sv G (σ1:=e7 fr p1 (cY::tl)) (m:=m) en cf rfl (by omega) R (λQ' q'=>xa G (rm.less ()) en ca hb (by omega) R cv λρ1 s1 y r1 v1=>q' ρ1 s1 y (by rw[<-hP];exact r1) (by rw[<-hm];exact v1)) λρ1 s1 ge r1 x1 n1 f1=>?_;have tell:∀(fr':List (Nm×V)) p' (ps:List dZ),fx (5+tl.length) (.frame fr')->dg (C b) (5+tl.length) (fb (List.range (5+tl.length))) (e7 fr' p' (cY::tl)++[.list true (ps.map (db 3)),.frame []]) (·=e7 fr' p' (cY::tl)++[.list true (ps.map (db 3))]):=λfr' p' ps hf=>by
  have:=mP (c:=C b) (σ:=e7 fr' p' (cY::tl)++[.list true (ps.map (db 3))]) [.frame []] (λo m=>?_)
  .rw[aw] at this
   have e:(e7 fr' p' (cY::tl)++[O.list true (ps.map (db 3))]).length=5+tl.length:=by rw[ai];show tl.length+1+1+1+1+1=_;omega
   rw[e] at this;exact this
  .have e:(e7 fr' p' (cY::tl)++[O.list true (ps.map (db 3))]).length=5+tl.length:=by rw[ai];show tl.length+1+1+1+1+1=_;omega
   rw[e];rcases bj.mp m with m | m
   .exact rZ (by omega) hf (ie .ref hT) o m
   .cases aj.mp m
    exact .parts (by omega) ps
 refine⟨ge,s,.rng m,ρ,ρ1,e7 fr p (cY::tl),e7 fr p1 (cY::tl),λj τ vs=>τ=e7 fr (d7 j p1).2 (cY::tl)/\j<=m/\vs=(d7 j p1).1.map (db 3),fb (List.range (5+tl.length)),rfl,⟨R,r1,x1,n1,f1,?_,⟨rfl,aJ _,rfl⟩,?_,?_,aY (by rw[len,len]),?_⟩,?_⟩
 .intro vv v Ia j ρ' s' Q' E' hv vr xi hq
  exact bV (a:=Unit.unit) rfl hq
 .rintro j τ vs ⟨rfl,hj,rfl⟩
  exact⟨by rw[af,kn];omega,by show m<2^60;omega⟩
 .rintro j τ vs v Cc s2 ρ2 y E' ⟨rfl,hj,rfl⟩ hv hl2 r2 eC vy
  have hlt:=sL hv;have en2:dE (compEnvC (de (sV x)).s cl Cc env) ((e7 fr (d7 j p1).2 (cY::tl)).length+1) ρ2:=⟨by show(relabel (de (sV x)).s env).kind=_;rw[SC.rel];exact SC.kind,by rw[len] at eC ⊢;exact eC,en.glob,en.blt⟩
  have hlk:(compEnvC (de (sV x)).s cl Cc env).scope.names.lookup (nmT kq)=some .local:=lookup_relabel_local (env:=env) ht;refine bN ?_;obtain⟨_,_,k2⟩:=d8 (c:=C b) G.X (sX (τ:=e7 fr (d7 j p1).2 (cY::tl)) (l:=.list true ((d7 j p1).1.map (db 3))) (fr:=[]) (n:=kq) (v:=v));refine k2 A _ _ ρ2 y _ E' en2 hlk r2.rel vy λs3 r3=>?_;have r23:=r2.trans r3;have R23:(C b).R ρ2 (e7 fr (d7 j p1).2 (cY::(tl++[O.list true (List.map (db 3) (d7 j p1).1),O.frame (jK kq v [])]))) s3.heap:=r23.rel;refine BI G (fr:=fr) (p:=(d7 j p1).2) (tl:=tl++[O.list true (List.map (db 3) (d7 j p1).1),O.frame (jK kq v [])]) (rm.less ()) en2 (by rw[show(compEnvC (de (sV x)).s cl Cc env).scope=uW (de (sV x)).s from SC.rel];exact ce) (lc hb1 j) R23 (cvs _ _ (.head _) _ _ _ _ (cv.res r23)) (cvs _ _ (.tail _ (.head _)) _ _ _ _ (cr.res r23)) λρ4 s4 z r4 v4=>?_;exact⟨ρ4,e7 fr (d7 (j+1) p1).2 (cY::tl),_,_,r3.trans r4,by rw[len,len],v4,rfl,hlt,by show _=((d7 j p1).1++[_]).map _;rw[bn];rfl⟩
 .rintro τ vs ⟨rfl,_,rfl⟩ _
  have:=tell fr (d7 (qX.rng m).len p1).2 (d7 (qX.rng m).len p1).1 hS0;rw[show(e7 fr (d7 (qX.rng m).len p1).2 (cY::tl)).length+1=5+tl.length from by rw[len];omega];exact this
 .rintro ρ' s' τ vs D Cc ⟨rfl,_,rfl⟩ hl2 r eD eC
  rw[len] at eD eC;obtain⟨_,_,k2⟩:=d8 (c:=C b) G.X (show gQ ⟨e7 fr (d7 m p1).2 (cY::tl)++[.list true ((d7 m p1).1.map (db 3)),.frame []],[],[]⟩ 0 n (.obj (4+tl.length))=some ⟨e7 (jK n (.obj (4+tl.length)) fr) (d7 m p1).2 (cY::tl)++[.list true ((d7 m p1).1.map (db 3)),.frame []],[],[]⟩ from rfl);refine k2 A env s' ρ' (.ref D) _ E (en.grow r.grow) hl r.rel ⟨D,by rw[<-dP];exact eD,rfl⟩ λs'' r2=>?_;have r3:=r.trans r2;have T:=tell (jK n (.obj (4+tl.length)) fr) (d7 m p1).2 (d7 m p1).1 hS;obtain⟨hm',bh⟩:=qO (c:=C b) (τ:=e7 (jK n (.obj (4+tl.length)) fr) (d7 m p1).2 (cY::tl)) (g:=fb (List.range (5+tl.length))) R (by rw[len,len];exact ao _) r3 (by rw[len];exact eD) (by rw[len];exact eC) (by rw[len,show 4+tl.length+1=5+tl.length from by omega];exact T);refine⟨hm'.choose,hm'.choose_spec,λh' sb=>?_⟩;obtain⟨ρ2,r4,_⟩:=bh h' sb;exact q ρ2 _ r4
def yt(k:Int):Str:=⟨#[lU.cps.getD k.toNat 0]⟩
def dm:Nat->List Int×Int->List Str×List Int×Int
 |0,p=>([],p)
 |n+1,p=>((dm n p).1++[yt (take 2 (dm n p).2).1],(take 2 (dm n p).2).2)
theorem jg:∀n p,(dm n p).1.length=n
 |0,_=>rfl
 |n+1,p=>by show((dm n p).1++[_]).length=_;rw[ai,jg n p];rfl
theorem lF{p:List Int×Int}(h:ik p):∀n,ik (dm n p).2
 |0=>h
 |n+1=>je (lF h n)
theorem kA:∀n p,∀y∈(dm n p).1,y.length<=1
 |0,_,_,m=>by cases m
 |n+1,p,y,m=>by
  rcases bj.mp (show y∈(dm n p).1++[_] from m) with m | m
  .exact kA n p y m
  .cases aj.mp m;exact ao 1
theorem wF{B:Nat}:∀(l:List Str) (a:Array Nat),(∀y∈l,y.length<=B)->(l.foldl (λB' p=>B'++(⟨#[]⟩:Str).cps++p.cps) a).size<=a.size+l.length*B
 |[],a,_=>by show a.size<=a.size+0*B;omega
 |y::l,a,h=>by
  have h1:=wF l (a++(⟨#[]⟩:Str).cps++y.cps) λz m=>h z (.tail _ m);have h2:y.cps.size<=B:=h y (.head _);rw[List.foldl_cons];rw[cK,cK] at h1;have h3:(⟨#[]⟩:Str).cps.size=0:=rfl;have h4:(y::l).length*B=l.length*B+B:=Nat.succ_mul _ _;omega
theorem E3{B:Nat}{l:List Str}(h:∀y∈l,y.length<=B):(Txt.join ⟨#[]⟩ l).length<=l.length*B:=by
 cases l with
 |nil=>exact aJ _
 |cons x l=>
  have h1:=wF l x.cps λz m=>h z (.tail _ m);have h2:x.cps.size<=B:=h x (.head _);have h4:(x::l).length*B=l.length*B+B:=Nat.succ_mul _ _;show(l.foldl (λB' p=>B'++(⟨#[]⟩:Str).cps++p.cps) x.cps).size<=_;omega
abbrev yq:Sk Stmt:=.asg (.tgt cS) (.meth (.cst (.str ⟨#[]⟩)) "join" (.l [.comp (.sub (.cst (.str lU)) (qh 2)) (.call (.glb gJ) (.l [qh 5])) kq [ey]]))
theorem xP{ρ:List Addr}{h:Heap}:∀{ys:List Str} {z':List Value},dy ρ h (ys.map (V.str true)) z'->StrsAre z' ys
 |[],z',v=>by cases v;exact .nil
 |y::ys,z',v=>by
  obtain⟨z,zs,rfl,⟨t,rfl⟩,r⟩:=v;exact .cons y t (xP r)
nonrec theorem BN{b:Bs}{env:Env}{A:Around}{E:Value->Shared->Prop}{e:Expr}{k1:Nat}{p1 ap cp:Pos}{s:Shared}{Q:Value->Shared->Prop}(hl:(ap.endLine==cp.line)=true)(hs:pF e)(h:∀(t tk:Nat),wpAny (C b).M A (eval e env) (λv s'=>∃D z' ys,v= .ref D/\s'.heap.IsList D (List.toArray z')/\StrsAre z' ys/\(ys.map (·.length)).sum<=1000/\∀t' k,Q (.str (Txt.join ⟨#[]⟩ ys) t') {s' with toks:=k}) E {s with toks:=tk}):wpAny (C b).M A (eval (.Call (.Attribute (.Constant (.str ⟨#[]⟩) k1 p1) "join" ap) [e] [] cp) env) Q E s:=by
 have e1:starEach [e] env=(false,eval e env)::starEach [] env:=ez hs;rw[arm_eval_Call,hO rfl];refine aa (cH ?_);refine aa (ba ?_);have hform:methodCallForm ([e].length+([]:List Keyword).length) (backTo cp (starEach [e] env)) (backToKw cp (keywordEach [] env))=true:=by
  unfold methodCallForm;rw[e1];rfl
 have hpos:methodCallPos true (.Constant (.str ⟨#[]⟩) k1 p1) env ap cp=pure cp:=by unfold methodCallPos;simp [hl]
 unfold methodCall;rw[hform];refine aa (aU (GM.join ?_));refine aa (bV hpos ?_);refine callWith_builtin (by rw[e1];rfl) ?_;have ea:∀{f:Value} {Q:Args->Shared->Prop} {s:Shared},wpAny (C b).M A (spliced (backTo cp (starEach [e] env))) (λvs s'=>Q ⟨vs,[]⟩ s') E s->wpAny (C b).M A (evalArgs f true (backTo cp (starEach [e] env)) []) Q E s:=λq=>by
  rw[e1] at q ⊢;exact cu q
 refine ea (aF (aK (h s.toks _) (λv s' hv=>?_) λI I z=>z) e1);obtain⟨D,z',ys,rfl,h1,h2,h3,q⟩:=hv;refine aN ?_;exact join_list h1 h2 (by rw[show(⟨#[]⟩:Str).length=0 from rfl];omega) q
theorem wR:∀{l:List Str},(∀y∈l,y.length<=1)->(l.map (·.length)).sum<=l.length
 |[],_=>ao _
 |x::l,h=>by
  have h1:=wR (l:=l) λy m=>h y (.tail _ m);have h2:=h x (.head _);rw[List.map_cons,List.sum_cons,bJ];omega
nonrec theorem B6{b:Bs}{env:Env}{A:Around}{E:Value->Shared->Prop}{fr:List (Nm×V)}{p:List Int×Int}{x:Stmt}{s:Shared}{ρ:List Addr}{Q:Flow->Shared->Prop}(G:dI b)(rm:ee A 70)(en:dE env 0 ρ)(ck:fE env.scope yq x)(hb:ik p)(R:(C b).R ρ (e7 fr p [cY]) s.heap)(cv:gR env ρ (e7 fr p [cY]) s.heap ey 2)(hS0:fx 5 (.frame fr))(q:∀ρ' s',(C b).Rs ρ (e7 fr p [cY]) s ρ' (e7 (jK cS (.str true (Txt.join ⟨#[]⟩ (dm (take 5 p).1.toNat (take 5 p).2).1)) fr) (dm (take 5 p).1.toNat (take 5 p).2).2 [cY]++[.list true ((dm (take 5 p).1.toNat (take 5 p).2).1.map (V.str true))]) s'->Q .next s'):wpAny (C b).M A (exec (bE yq x) env) Q E s:=by
 obtain⟨hl,hap,_,⟨co,ht,⟨cf,ca,_⟩,_,ci⟩,_⟩:=ck;have SC:=pR en.kind co λn m=>by
  cases aj.mp m;exact⟨_,_,_,_,cv⟩
 obtain⟨cl,hcl,cvs⟩:=SC.clos;obtain⟨lk0,lk1⟩:=jD (lim:=5) () p;have hm:(take 5 p).1=((take 5 p).1.toNat:Int):=(Int.toNat_of_nonneg lk0).symm;generalize hM:(take 5 p).1.toNat=m at hm q;have hm100:m<=5:=by omega
 have hb1:=je (lim:=5) hb;generalize hP:(take 5 p).2=p1' at hb1 q;refine cA (BN hap rfl λt tk=>?_) (gA rfl _ _ _);have r0:(C b).Rs ρ (e7 fr p [cY]) s ρ (e7 fr p [cY]) {s with toks:=tk}:=eR.more0 R (λI I e=>e) rfl rfl;refine qa (c:=C b) G.X rm.handled hcl SC.cell SC.kind SC.names (λv=>rfl) ?_;refine sv G (σ1:=e7 fr p1' [cY]) (m:=m) en cf rfl (by omega) r0.rel (λQ' q'=>ng (s:={s with toks:=tk}) G (rm.less ()) en ca hb () r0.rel (cv.res r0) λρ1 s1 y r1 v1=>q' ρ1 s1 y (by rw[<-hP];exact r1) (by rw[<-hm];exact v1)) λρ1 s1 ge r1 x1 n1 f1=>?_;have tell:∀(fr':List (Nm×V)) p' (ys:List Str),fx 5 (.frame fr')->dg (C b) 5 (fb (List.range 5)) (e7 fr' p' [cY]++[.list true (ys.map (V.str true)),.frame []]) (·=e7 fr' p' [cY]++[.list true (ys.map (V.str true))]):=λfr' p' ys hf=>by
  exact mP (c:=C b) (σ:=e7 fr' p' [cY]++[.list true (ys.map (V.str true))]) [.frame []] (λo m=>by
   rcases bj.mp m with m | m
   .exact rZ () hf (ie .ref λI m=>by cases m) o m
   .cases aj.mp m
    exact λf I=>.l (.map' _ λx I=>.s))
 refine⟨ge,_,.rng m,ρ,ρ1,e7 fr p [cY],e7 fr p1' [cY],λj τ vs=>τ=e7 fr (dm j p1').2 [cY]/\j<=m/\vs=(dm j p1').1.map (V.str true),fb (List.range 5),rfl,⟨r0.rel,r1,x1,n1,f1,?_,⟨rfl,aJ _,rfl⟩,?_,?_,ao _,?_⟩,?_⟩
 .intro vv v Ia j ρ' s' Q' E' hv vr xi hq
  exact bV (a:=Unit.unit) rfl hq
 .rintro j τ vs ⟨rfl,hj,rfl⟩
  exact⟨by rw[af,jg];omega,by show m<2^60;omega⟩
 .rintro j τ vs v Cc s2 ρ2 y E' ⟨rfl,hj,rfl⟩ hv hl2 r2 eC vy
  have hlt:=sL hv;have en2:dE (compEnvC (de (ic (kL (sV x)))).s cl Cc env) ((e7 fr (dm j p1').2 [cY]).length+1) ρ2:=⟨by show(relabel (de (ic (kL (sV x)))).s env).kind=_;rw[SC.rel];exact SC.kind,eC,en.glob,en.blt⟩
  have hlk:(compEnvC (de (ic (kL (sV x)))).s cl Cc env).scope.names.lookup (nmT kq)=some .local:=lookup_relabel_local (env:=env) ht;refine bN ?_;obtain⟨_,_,k2⟩:=d8 (c:=C b) G.X (sX (τ:=e7 fr (dm j p1').2 [cY]) (l:=.list true ((dm j p1').1.map (V.str true))) (fr:=[]) (n:=kq) (v:=v));refine k2 A _ _ ρ2 y _ E' en2 hlk r2.rel vy λs3 r3=>?_;have r23:=r0.trans (r2.trans r3);refine Subscript_ (cH ?_);have r4:=r3.trans (eR.more0 (s':={s3 with toks:=s3.toks+1}) r3.rel (λI I e=>e) rfl rfl);have R4:(C b).R ρ2 (e7 fr (dm j p1').2 (cY::([]++[O.list true (List.map (V.str true) (dm j p1').1),O.frame (jK kq v [])]))) ({s3 with toks:=s3.toks+1}:Shared).heap:=r4.rel;refine ng G (fr:=fr) (p:=(dm j p1').2) (tl:=cY::([]++[O.list true (List.map (V.str true) (dm j p1').1),O.frame (jK kq v [])])) (rm.less ()) en2 (by rw[show(compEnvC (de (ic (kL (sV x)))).s cl Cc env).scope=uW (de (ic (kL (sV x)))).s from SC.rel];exact ci) (lF hb1 j) () R4 (cvs _ _ (.head _) _ _ _ _ (cv.res (r0.trans (r2.trans r4)))) λρ5 s5 z r5 v5=>?_;obtain⟨l0,l1⟩:=jD (lim:=2) () (dm j p1').2;refine(nN (c:=C b) (n:=0) (a:=.str false lU) (b:=.int true (take 2 (dm j p1').2).1) (st:=⟨_,[],[]⟩) (v:=.str true (yt (take 2 (dm j p1').2).1)) rfl (λP m=>?_)).2.2 A s5 ρ5 _ z _ _ _ E' rfl (rm.less ()) r5.rel (λI I e=>by cases e) ⟨_,rfl⟩ v5 λs6 z6 r6 v6=>?_
  .cases aj.mp m
   exact⟨l0,by show _<(2:Int);exact l1,Int.lt_trans l1 ()⟩
  .exact⟨ρ5,e7 fr (dm (j+1) p1').2 [cY],_,_,r4.trans (r5.trans r6),rfl,v6,rfl,hlt,by show _=((dm j p1').1++[_]).map _;rw[bn];rfl⟩
 .rintro τ vs ⟨rfl,_,rfl⟩ _
  exact tell fr _ _ hS0
 .rintro ρ' s' τ vs D ⟨rfl,_,rfl⟩ hl2 r eD
  obtain⟨z',n',ho,vr⟩:=r.rel.at eD (show nth (e7 fr (dm m p1').2 [cY]++[O.list true (List.map (V.str true) (dm m p1').1)]) 4=some (O.list true (List.map (V.str true) (dm m p1').1)) from rfl);refine⟨D,z',(dm m p1').1,rfl,⟨_,ho,rfl,n',rfl⟩,xP vr,?_,λt' k=>?_⟩
  .have:=wR (kA m p1')
   rw[jg] at this;omega
  .obtain⟨_,_,k2⟩:=d8 (c:=C b) G.X (show gQ ⟨e7 fr (dm m p1').2 [cY]++[.list true ((dm m p1').1.map (V.str true))],[],[]⟩ 0 cS (.str true (Txt.join ⟨#[]⟩ (dm m p1').1))=some ⟨e7 (jK cS (.str true (Txt.join ⟨#[]⟩ (dm m p1').1)) fr) (dm m p1').2 [cY]++[.list true ((dm m p1').1.map (V.str true))],[],[]⟩ from rfl)
   have r5:=r.trans (eR.more0 (s':={s' with toks:=k}) r.rel (λI I e=>e) rfl rfl);exact k2 A env {s' with toks:=k} ρ' _ _ E (en.grow r.grow) hl r5.rel ⟨t',rfl⟩ λs'' r2=>q ρ' s'' ((r0.trans r5).trans r2)
section
variable{b:Bs} {env:Env} {A:Around} {E Q:Value->Shared->Prop} {s:Shared}
theorem jM(q:Q .none s):wpAny (C b).M A (evalPart none env) Q E s:=by rw[evalPart_none];exact aE q
theorem qi{e:Expr}(q:wpAny (C b).M A (eval e env) Q E s):wpAny (C b).M A (evalPart (some e) env) Q E s:=q
theorem nR{x:Str}{px:Pos}{lo hi st:Option Expr}{p pos:Pos}
  (h:wpAny (C b).M A (eval (.Name x px) env) (λov s1=>wpAny (C b).M A (evalPart lo env) (λl s2=>wpAny (C b).M A (evalPart hi env) (λu s3=>wpAny (C b).M A (evalPart st env) (λk s4=>∃(a:Addr) (z':List Value) (li ui ki:Option Int),ov= .ref a/\s4.heap.IsList a z'.toArray/\z'.length<=2^20/\IsPart l li/\IsPart u ui/\IsPart k ki/\ki≠some 0/\
   ∀h',(∀b o,s4.heap.get? b=some o->h'.get? b=some o)->h'.get? (s4.heap.objs.size+1)=some (fw (slicePick z'.toArray li ui ki).toList 0)->Q (.ref (s4.heap.objs.size+1)) {s4 with heap:=h'}) E s3) E s2) E s1) E s)
  (hs:∀o i,∃ops,subscripted (.Slice lo hi st p) false o i=operate ops (getItem o i)):wpAny (C b).M A (eval (.Subscript (.Name x px) (.Slice lo hi st p) pos) env) Q E s:=by
 refine Subscript_ (aK h (λov s1 h1=>wpAny_Slice (aK h1 (λl s2 h2=>aK h2 (λu s3 h3=>aK h3 (λk s4 h4=>?_) λI I z=>z) λI I z=>z) λI I z=>z)) λI I z=>z);obtain⟨a,z',li,ui,ki,rfl,hl,hz,pl,pu,pk,h0,q⟩:=h4;have big:=dv;obtain⟨ops,hs⟩:=hs (.ref a) (.ref s4.heap.objs.size);refine subscriptTail_ops (Heap.IsList.typeIs (s:={s4 with heap:=s4.heap.push {cls:=.type "slice",data:=.fields #[l,u,k]}}) (hl.push _)) list_getitem_lookup
  (wpAny_getItem_list_slice (hl.push _) (Heap.IsSliceOf.new ..) pl pu pk h0 ?_ (by simp;omega)) hs (by intro r;rfl)
 have e:(s4.heap.push {cls:=.type "slice",data:=.fields #[l,u,k]}).objs.size=s4.heap.objs.size+1:=bB ..;show Q (.ref (s4.heap.push _).objs.size) _;rw[e];refine q _ (λb o e=>ae _ (ae _ e)) ?_;rw[<-e,aB _ rfl]
def DW(h:Heap)(S:Addr)(xs:List Int):Prop:=∃z':List Value,h.IsList S z'.toArray/\∀ρ h',dy ρ h' (xs.map (V.int true)) z'
theorem dy.take{ρ:List Addr}{h:Heap}:∀{vs:List V} {z':List Value} (k:Nat),dy ρ h vs z'->dy ρ h (vs.take k) (z'.take k)
 |_,_,0,_=>by rw[List.take_zero,List.take_zero];exact .nil
 |[],_,k+1,v=>by cases v;exact .nil
 |w::vs,_,k+1,v=>by
  obtain⟨z,zs,rfl,v1,v2⟩:=v;exact⟨z,zs.take k,rfl,v1,v2.take k⟩
abbrev Ay:Sk Expr:=.sub (.loc eK) (.slc .no (.opt (.cst (.int 40))) .no)
theorem qI(G:dI b){x:Expr}{ρ:List Addr}{σ:List O}{fr:List (Nm×V)}{S:Addr}{xs:List Int}(en:dE env 0 ρ)(ck:fE env.scope Ay x)(hf:nth σ 0=some (.frame fr))(hS:gX eK fr=some (.val (.ref S)))(sc:DW s.heap S xs)(hx:xs.length<=100)(R:(C b).R ρ σ s.heap)
  (q:∀ρ' s' ge,(C b).Rs ρ σ s ρ' (σ++[.list true ((xs.take 40).map (V.int true))]) s'->jF (.lst σ.length ((xs.take 40).map (V.int true))) ge 0 ρ' s'.heap->ge∉dA ρ' (σ++[.list true ((xs.take 40).map (V.int true))])->(s.heap.get? ge=none\/ge∈dA ρ σ)->Q (.ref ge) s'):
  wpAny (C b).M A (eval (bE Ay x) env) (λv s1=>wpAny (C b).M A (pyIter v) Q E s1) E s:=by
 refine nR (hs:=λI I=>⟨_,rfl⟩) (fY G hf hS en ck.1.1 ck.1.2 R λy vy=>?_);obtain⟨rfl,_⟩:=vy;refine jM (qi (aR (jM ?_)));obtain⟨z',ho,vr⟩:=sc;have lz:z'.length=xs.length:=by have:=(vr [] s.heap).length;rw[af] at this;exact this
 refine⟨S,z',none,some 40,none,rfl,ho,by omega,.none,.int _ _,.none,by simp,λh' kp e=>?_⟩;have ep:slicePick z'.toArray none (some 40) none=(z'.take 40).toArray:=slicePick_upto' z'.toArray 40;rw[ep] at e;generalize hz:({s with toks:=s.toks+1}:Shared).heap.objs.size+1=D at e;have eD:D=s.heap.objs.size+1:=hz.symm;have fD:s.heap.get? D=none:=by
  cases q:s.heap.get? D with
  |none=>rfl
  |some o=>have:=ay q;rw[eD] at this;exact absurd this (cF.mpr (au _))
 have r1:(C b).Rs ρ σ s (ρ++[D]) (σ++[.list true ((xs.take 40).map (V.int true))]) {{s with toks:=s.toks+1} with heap:=h'}:=
  eR.pushC (o:=.list true ((xs.take 40).map (V.int true))) R kp (λx m=>by cases aj.mp m;exact fD) ⟨z'.take 40,0,e,by rw[List.map_take];exact(vr _ _).take 40⟩ rfl rfl (by
   have:=ay e;rw[eD] at this;exact aZ (bw (au _) this))
 refine wpAny_pyIter_list (items:=(z'.take 40).toArray) ⟨_,e,rfl,0,rfl⟩ ?_;have k2:∀b o,h'.get? b=some o->(h'.push {cls:=.type "list_iterator",data:=.fields #[.ref D,.int 0 0]}).get? b=some o:=λb o e=>ae _ e;have eN:nth (ρ++[D]) σ.length=some D:=by rw[<-R.len];exact gr _ _
 refine q (ρ++[D]) _ _ (r1.trans (eR.more0 r1.rel k2 rfl rfl)) ⟨D,eN,_,aB _ rfl,rfl,rfl⟩ (λm=>?_) ?_
 .obtain⟨o,e⟩:=r1.rel.there m
  exact absurd (ay e) (bD _)
 .by_cases m:h'.objs.size∈dA ρ σ
  .exact .inr m
  .cases e:s.heap.get? h'.objs.size with
   |none=>exact .inl rfl
   |some o=>exact absurd (ay (kp _ o e)) (bD _)
end
theorem DW.keep{h h':Heap}{S:Addr}{xs:List Int}(x:DW h S xs)(k:∀o,h.get? S=some o->h'.get? S=some o):DW h' S xs:=by
 obtain⟨z',⟨o,e,r⟩,v⟩:=x;exact⟨z',⟨o,k _ e,r⟩,v⟩
abbrev yJ:Sk Expr:=.comp (.call (.glb HD) (.l [.loc lO])) Ay lO []
abbrev D9:Sk Stmt:=.asg (.cel ey) (.lst (.l [yJ,.cst (.int 7)]))
nonrec theorem Cy{b:Bs}{env:Env}{A:Around}{E:Value->Shared->Prop}{x:Expr}{s:Shared}{ρ:List Addr}{fr:List (Nm×V)}{S:Addr}{xs:List Int}{Q:Value->Shared->Prop}(G:dI b)(rm:ee A 10)(en:dE env 0 ρ)(ck:fE env.scope yJ x)(hS:gX eK fr=some (.val (.ref S)))(sc:DW s.heap S xs)(hx:xs.length<=100)(R:(C b).R ρ [.frame fr] s.heap)(hf:fx 3 (.frame fr))(q:∀ρ' s' y,(C b).Rs ρ [.frame fr] s ρ' [.frame fr,fg (xs.take 40),fg (xs.take 40)] s'->dH ρ' s'.heap (.obj 2) y->Q y s'):wpAny (C b).M A (eval (bE yJ x) env) Q E s:=by
 obtain⟨co,hl,ci,cf,⟨cl1,cd⟩,_⟩:=ck;have SC:=pR en.kind co λn m=>by cases m
 obtain⟨cl,hcl,_⟩:=SC.clos;refine qa (c:=C b) G.X rm.handled hcl SC.cell SC.kind SC.names (λv=>rfl) ?_;refine qI G en ci rfl hS sc hx R λρ1 s1 ge r1 x1 n1 f1=>?_;have lx:(xs.take 40).length<=100:=by rw[cc];omega
 refine⟨ge,s,.lst 1 ((xs.take 40).map (V.int true)),ρ,ρ1,[.frame fr],[.frame fr,fg (xs.take 40)],λj τ vs=>τ=[.frame fr,fg (xs.take 40)]/\j<=(xs.take 40).length/\vs=((xs.take 40).take j).map (V.int true),fb (List.range 3),rfl,⟨R,r1,x1,n1,f1,?_,⟨rfl,aJ _,rfl⟩,?_,?_,(show 1<=2 by decide),?_⟩,?_⟩
 .intro vv v Ia j ρ' s' Q' E' hv vr xi hq
  exact bV (a:=Unit.unit) rfl hq
 .rintro j τ vs ⟨rfl,hj,rfl⟩
  exact⟨by rw[af,cc];omega,true,rfl⟩
 .rintro j τ vs v Cc s2 ρ2 y E' ⟨rfl,hj,rfl⟩ hv _ r2 eC vy
  obtain⟨i,hi,rfl,hm⟩:=kN (V.int true) hv;have en2:dE (compEnvC (de x).s cl Cc env) 3 ρ2:=⟨by show(relabel (de x).s env).kind=_;rw[SC.rel];exact SC.kind,eC,en.glob,en.blt⟩
  have hlk:(compEnvC (de x).s cl Cc env).scope.names.lookup (nmT lO)=some .local:=lookup_relabel_local (env:=env) hl;have sce:(compEnvC (de x).s cl Cc env).scope=uW (de x).s:=SC.rel;refine bN ?_;obtain⟨_,_,k2⟩:=d8 (c:=C b) G.X (sX (τ:=[.frame fr,fg (xs.take 40)]) (l:=.list true (((xs.take 40).take j).map (V.int true))) (fr:=[]) (n:=lO) (v:=.int true i));refine k2 A _ _ ρ2 y _ E' en2 hlk r2.rel vy λs3 r3=>?_;refine bH (g9 (c:=C b) (st:=⟨_,[],[]⟩) G.X (n:=HD) (v:=.bi 5) rfl en2 (by rw[sce];exact cf.1) cf.2 r3.rel λz vz=>?_);cases vz;refine cE rfl (cu (aF (fY G (n:=lO) (fi:=3) (m:=[(lO,.int true i)]) rfl rfl en2 hlk cd r3.rel λz vz=>?_)));obtain⟨t,rfl⟩:=vz;refine aN (call_int_int ?_);exact⟨ρ2,[.frame fr,fg (xs.take 40)],.int true i,_,r3,rfl,⟨t,rfl⟩,rfl,fR hi,(hm (V.int true)).symm⟩
 .rintro τ vs ⟨rfl,_,rfl⟩ _
  exact mP (c:=C b) (σ:=[.frame fr,fg (xs.take 40),.list true (((xs.take 40).take _).map (V.int true))]) [.frame []] (ie hf (ie (.inn _) (ie (.inn _) λI m=>by cases m)))
 .rintro ρ' s' τ vs D ⟨rfl,_,rfl⟩ _ r eD
  have hL:((xs.take 40).take (qX.lst 1 ((xs.take 40).map (V.int true))).len)=xs.take 40:=by
   show(xs.take 40).take ((xs.take 40).map (V.int true)).length=_;rw[af,cG]
  rw[hL] at r;exact q ρ' s' _ r ⟨D,by rw[<-dP];exact eD,rfl⟩
nonrec theorem EU{b:Bs}{env:Env}{A:Around}{E:Value->Shared->Prop}{x:Stmt}{s₀ s:Shared}{ρ9 ρ:List Addr}{σ0:List O}{fr:List (Nm×V)}{S cb:Addr}{xs:List Int}{Q:Flow->Shared->Prop}(G:dI b)(rm:ee A 10)(en:dE env 0 ρ)(ck:fE env.scope D9 x)(hS:gX eK fr=some (.val (.ref S)))(sc:DW s.heap S xs)(hx:xs.length<=100)(hf:∀k,fx k (.frame fr))(R0:(C b).R ρ9 σ0 s₀.heap)(r:(C b).Rs ρ9 σ0 s₀ ρ [.frame fr] s)(h1:σ0.length<=1)(hc:env.cells.lookup (nmT ey)=some cb)(hv:s.heap.IsCell cb none)(nf:cb∉dA ρ [.frame fr])(hn:s₀.heap.get? cb=none)(q:∀ρ' s',(C b).Rs ρ9 σ0 s₀ ρ' (e7 fr (xs.take 40,7) []) s'->gR env ρ' (e7 fr (xs.take 40,7) []) s'.heap ey 2->dE env 0 ρ'->(∀z∈dA ρ' (e7 fr (xs.take 40,7) []),z∈dA ρ [.frame fr]\/s.heap.get? z=none)->
   (∀b o,s.heap.get? b=some o->b∉dA ρ [.frame fr]->b≠cb->s'.heap.get? b=some o)->Q .next s'):wpAny (C b).M A (exec (bE D9 x) env) Q E s:=by
 obtain⟨hl,ci,_⟩:=ck;refine cA (wpAny_List_spliced (aF (Cy G rm en ci hS sc hx r.rel (hf 3) λρ1 s1 y1 r1 v1=>aF (aR (aN ?_))) (ez rfl))) (gA rfl _ _ _);have r2:=r1.trans (eR.more0 (s':={s1 with toks:=s1.toks+1}) r1.rel (λI I e=>e) rfl rfl);obtain⟨r3,v3⟩:=eR.newL (xs:=[.obj 2,.int true 7]) (z':=[y1,.int 7 s1.toks]) (h':=s1.heap.push {cls:=.type "list",data:=.seq [y1,.int 7 s1.toks].toArray}) (s:={s1 with toks:=s1.toks+1}) (y:=true) r2.rel (λb o e=>ae _ e) (aB _ rfl) (.cons v1 (.cons ⟨_,rfl⟩ .nil));have r4:=r2.trans r3;have T:dg (C b) 1 (fb [0,2,3]) [.frame fr,fg (xs.take 40),fg (xs.take 40),.list true [.obj 2,.int true 7]] (·=e7 fr (xs.take 40,7) []):=
  dg.sel (I':=[.frame fr,fg (xs.take 40),.list true [.obj 2,.int true 7]]) rfl () (fj rfl) (.k (hf 1 _ λi hi=>by cases Nat.lt_one_iff.mp hi;rfl) (.k (.l (.ints _)) (.k (.l (.k (.o rfl) (.k .i .z))) .z)))
 have big:=dv;refine⟨by show 2<=_;omega,?_⟩;obtain⟨ρ5,σ5,rfl,r5,g5,keep5,ft5,_⟩:=eR.tell (c:=C b) r4 T (ao 1) r.rel.len;have hcell:({s1 with heap:=s1.heap.push {cls:=.type "list",data:=.seq [y1,.int 7 s1.toks].toArray},toks:=s1.toks+1}:Shared).heap.IsCell cb none:=by
  obtain⟨o,ho,hd⟩:=hv;exact⟨o,r5.keep cb o ho nf,hd⟩
 have nf5:cb∉dA ρ5 (e7 fr (xs.take 40,7) []):=λm=>by
  rcases r5.fresh cb m with m | m
  .exact nf m
  .obtain⟨o,ho,_⟩:=hv;rw[ho] at m;cases m
 refine wpAny_storeName_cell en.kind hl hc hcell λh' hc' sb=>?_;have r6:=r.trans r5;have r7:(C b).Rs ρ9 σ0 s₀ ρ5 (e7 fr (xs.take 40,7) []) {{s1 with heap:=s1.heap.push {cls:=.type "list",data:=.seq [y1,.int 7 s1.toks].toArray},toks:=s1.toks+1} with heap:=h'}:=by
  refine eR.off2 r6 R0 (λz' t=>?_) nf5 (.inl hn) (λb o hb e=>by rw[sb.2 b hb];exact e) rfl rfl;obtain⟨o,ho,hd⟩:=hcell;obtain⟨o',ho',_,n',hd'⟩:=t;rw[ho] at ho';cases ho';rw[hd] at hd';cases hd'
 refine q ρ5 _ r7 ⟨hl,cb,s1.heap.objs.size,hc,hc',?_,nf5⟩ (en.grow r5.grow) r5.fresh λb o e m hb=>?_
 .obtain⟨a,e,ea⟩:=v3
  cases ea;exact g5 3 2 rfl _ (by rw[dP];exact e)
 .rw[sb.2 b hb];exact r5.keep b o e m
theorem rU{c:Cx}{N2:qX}{env:Env}{A:Around}{E:Value->Shared->Prop}{s:Shared}{ρ:List Addr}{σ:List O}{y:Str}{py pos:Pos}{it:Expr}{body:List Stmt}{Q:Flow->Shared->Prop}{k:Nat}(J:Nat->List O->Prop)(R:c.R ρ σ s.heap)(hh:A.handled=none)(hk:σ.length<=k)(hset:∀v,foldedSetIterable it env v=pure v)
  (hi:wpAny c.M A (eval it env) (λv s1=>wpAny c.M A (pyIter v) (λw s2=>∃ge ρ1 σ1,w= .ref ge/\c.Rs ρ σ s ρ1 σ1 s2/\jF N2 ge 0 ρ1 s2.heap/\ge∉dA ρ1 σ1/\(s.heap.get? ge=none\/ge∈dA ρ σ)/\J 0 σ1) E s1) E s)
  (hsrc:∀i xs,N2= .lst i xs->i<k) (hin:∀j τ,J j τ->om N2 τ)
  (turn:∀j τ v ρ' s' x E',J j τ->N2.at j=some v->c.Rs ρ σ s ρ' τ s'->dH ρ' s'.heap v x->wpAny c.M A (storeName env y x) (λI s1=>wpAny c.M A (execs body env) (λfl s2=>fl= .next/\∃ρ2 τ2 g,c.Rs ρ' τ s' ρ2 τ2 s2/\dg c k g τ2 (J (j+1))) E' s1) E' s')
  (fin:∀τ ρ' s',J N2.len τ->c.Rs ρ σ s ρ' τ s'->Q .next s'):wpAny c.M A (exec (.For (.Name y py) it body [] pos) env) Q E s:=by
 refine wpAny_For ?_ hset;refine aK hi (λv s1 h1=>aK h1 (λw s2 h2=>?_) λI I z=>z) λI I z=>z;obtain⟨Ia,ρ0,σ1,rfl,r0,x0,n0,f0,h0⟩:=h2;refine codeAny_forLoop_any (λm s'=>∃j ρ' σ',m=N2.len - j/\j<=N2.len/\J j σ'/\c.Rs ρ σ s ρ' σ' s'/\jF N2 Ia j ρ' s'.heap/\Ia∉dA ρ' σ') (λm s' hI=>?_) N2.len ⟨0,ρ0,σ1,by omega,by omega,h0,r0,x0,n0⟩;obtain⟨j,ρ1,σ',em,hj,i1,r1,x1,n1⟩:=hI;rw[em];obtain⟨oI,hoI,hnI⟩:=x1.obj;cases hv:N2.at j with
 |none=>
  have hj':=vX hv hj;refine yf hh r1.rel (hin _ _ i1) x1 hv hj λh' kp=>?_;refine aM ?_;exact fin σ' ρ1 _ (hj'▸i1) (r1.off R hoI hnI n1 f0 kp rfl rfl)
 |some v=>
  have hj':=sL hv;refine uY r1.rel (hin _ _ i1) x1 hv λx h' tk vy x2 kp=>?_;have r2:c.Rs ρ σ s ρ1 σ' {s' with heap:=h',toks:=tk}:=r1.off R hoI hnI n1 f0 kp rfl rfl;refine bV (a:=Unit.unit) rfl ?_;refine bN (aK (turn j σ' v ρ1 _ x _ i1 hv r2 vy) (λI s3 h3=>aK h3 (λfl s4 h4=>?_) λI I z=>z) λI I z=>z);obtain⟨rfl,ρ4,τ4,g,r4,T⟩:=h4;have r04:c.Rs ρ σ s ρ4 τ4 s4:=r2.trans r4;obtain⟨x4,n4⟩:=x2.res (c:=c) r4 n1;obtain⟨ρ5,σ5,jj,r5,_,g5,f5,_⟩:=eR.tell (c:=c) r04 T hk R.len;exact⟨N2.len - (j+1),cL hj' (aX j),j+1,ρ5,σ5,rfl,hj',jj,r5,x4.same (λI e=>e) (λi xs a e ea=>g5 i a (hsrc i xs e) ea),λm=>n4 (f5 _ m)⟩
abbrev CI:Sk Stmt:=.asg (.sub (.nm ey) (.cst (.int 1))) (.bin (.bin (.bin (.sub (.nm ey) (.cst (.int 1))) .Mult (.cst (.int 31))) .Add (.loc lO)) .Mod (.cst (.int 1000003)))
abbrev zd:Sk Stmt:=.for_ (.tgt lO) Ay (.l [CI])
def iN:List Int->Int->Int
 |[],z=>z
 |x::xs,z=>iN xs ((z*31+x).fmod 1000003)
theorem AI:∀(xs:List Int) {z:Int},0<=z->z<1000003->0<=iN xs z/\iN xs z<1000003
 |[],_,h0,h1=>⟨h0,h1⟩
 |x::xs,z,_,_=>AI xs (Int.fmod_nonneg_of_pos _ ()) (Int.fmod_lt_of_pos _ ())
theorem uB:∀(xs:List Int) (x z:Int),iN (xs++[x]) z=(iN xs z*31+x).fmod 1000003
 |[],_,_=>rfl
 |y::xs,x,z=>uB xs x _
abbrev hY(S:Addr):List (Nm×V):=[(eK,.val (.ref S))]
nonrec theorem Fc{b:Bs}{env:Env}{A:Around}{E:Value->Shared->Prop}{fr:List (Nm×V)}{p:List Int×Int}{tl:List O}{i:Int}{x:Stmt}{s:Shared}{ρ:List Addr}{Q:Flow->Shared->Prop}(G:dI b)(rm:ee A 10)(en:dE env 0 ρ)(ck:fE env.scope CI x)(hi:gX lO fr=some (.int true i))(R:(C b).R ρ (e7 fr p tl) s.heap)(cv:gR env ρ (e7 fr p tl) s.heap ey 2)(q:∀ρ' s',(C b).Rs ρ (e7 fr p tl) s ρ' (e7 fr (p.1,(p.2*31+i).fmod 1000003) tl) s'->Q .next s'):wpAny (C b).M A (exec (bE CI x) env) Q E s:=by
 obtain⟨lo,dl⟩:=ck.2.1.2;refine wpAny_Assign_Subscript ?_ (gA rfl _ _ _);refine cQ (cQ (cQ (Subscript_ (cv.load en rA λy vy=>aR ?_))));have r1:=eR.more0 (s':={s with toks:=s.toks+1}) R (λI I e=>e) rfl rfl;refine(nN (c:=C b) (n:=0) (a:=.obj 2) (b:=.int false 1) (st:=⟨e7 fr p tl,[],[]⟩) (C':=⟨e7 fr p tl,[],[]⟩) (v:=.int true p.2) rfl (λP m=>by cases m)).2.2 A {s with toks:=s.toks+1} ρ y _ _ _ _ E rfl (rm.less ()) r1.rel (λI I e=>by cases e) vy ⟨_,rfl⟩ λs2 y2 r2 v2=>?_;refine aR ?_;have r3:=(r1.trans r2).trans (eR.more0 (s':={s2 with toks:=s2.toks+1}) r2.rel (λI I e=>e) rfl rfl);refine(mU (c:=C b) (n:=0) (op:=.Mult) (a:=.int true p.2) (b:=.int false 31) (st:=⟨e7 fr p tl,[],[]⟩) (C':=⟨e7 fr p tl,[],[IntMulOk p.2 31]⟩) (v:=.int true (p.2*31)) rfl (λP m=>by cases aj.mp m;exact IntMulOk.of_right ())).2 A _ ρ y2 _ _ E (rm.less ()) r3.rel v2 ⟨_,rfl⟩ λρ4 s4 y4 r4 v4=>?_;have r34:=r3.trans r4;refine fY G (σ:=e7 fr p tl) (m:=fr) rfl hi (en.grow r34.grow) lo dl r34.rel λy5 v5=>?_;refine(mU (c:=C b) (n:=0) (op:=.Add) (a:=.int true (p.2*31)) (b:=.int true i) (st:=⟨e7 fr p tl,[],[]⟩) (C':=⟨e7 fr p tl,[],[]⟩) (v:=.int true (p.2*31+i)) rfl (λP m=>by cases m)).2 A s4 ρ4 y4 y5 _ E (rm.less ()) r34.rel v4 v5 λρ6 s6 y6 r6 v6=>?_;refine aR ?_;have r7:=(r34.trans r6).trans (eR.more0 (s':={s6 with toks:=s6.toks+1}) r6.rel (λI I e=>e) rfl rfl);refine(mU (c:=C b) (n:=0) (op:=.Mod) (a:=.int true (p.2*31+i)) (b:=.int false 1000003) (st:=⟨e7 fr p tl,[],[]⟩) (C':=⟨e7 fr p tl,[],[(1000003:Int)≠0]⟩) (v:=.int true ((p.2*31+i).fmod 1000003)) rfl (λP m=>by cases aj.mp m;exact(by decide:(1000003:Int)≠0))).2 A _ ρ6 y6 _ _ E (rm.less ()) r7.rel v6 ⟨_,rfl⟩ λρ8 s8 y8 r8 v8=>?_;have r78:=r7.trans r8;refine(cv.res r78).load (en.grow r78.grow) rA λy9 v9=>aR ?_;obtain⟨a,ha,rfl⟩:=v9;rw[<-dP] at ha;obtain⟨z',w,ho,z⟩:=r78.rel.at ha (show nth (e7 fr p tl) 2=some (gM 1 p.2) from rfl);refine qH (k:=1) ho rfl () (by rw[z.length];exact(by decide:1<2)) λh' m' e' sb=>?_;have tk:=r78.rel.tkBut ha (show nth (e7 fr p tl) 2=some (gM 1 p.2) from rfl) rfl sb;have r9:=r78.trans (eR.more0 (s':={s8 with toks:=s8.toks+1}) r78.rel (λI I e=>e) rfl rfl);refine q ρ8 _ (r9.trans (eR.setL (o':=gM 1 ((p.2*31+i).fmod 1000003)) r9.rel ha (show nth (e7 fr p tl) 2=some (gM 1 p.2) from rfl) rfl rfl sb ⟨_,_,e',?_⟩));exact(z.up (.refl _) tk).setN (v8.up (.refl _) tk) 1
nonrec theorem B2{b:Bs}{env:Env}{A:Around}{E:Value->Shared->Prop}{x:Stmt}{s:Shared}{ρ:List Addr}{S:Addr}{xs:List Int}{Q:Flow->Shared->Prop}(G:dI b)(rm:ee A 10)(en:dE env 0 ρ)(ck:fE env.scope zd x)(sc:DW s.heap S xs)(hx:xs.length<=100)(R:(C b).R ρ (e7 (hY S) (xs.take 40,7) []) s.heap)(cv:gR env ρ (e7 (hY S) (xs.take 40,7) []) s.heap ey 2)(q:∀ρ' s',(C b).Rs ρ (e7 (hY S) (xs.take 40,7) []) s ρ' (e7 (hY S) (xs.take 40,iN (xs.take 40) 7) [fg (xs.take 40)]) s'->Q .next s'):wpAny (C b).M A (exec (bE zd x) env) Q E s:=by
 obtain⟨lo,ci,cm,_⟩:=ck;refine rU (c:=C b) (N2:=.lst 3 ((xs.take 40).map (V.int true))) (k:=4) (λj τ=>τ=e7 (hY S) (xs.take 40,iN ((xs.take 40).take j) 7) [fg (xs.take 40)]) R rm.handled (by decide:3<=4) (λI=>rfl) (qI G (σ:=e7 (hY S) (xs.take 40,7) []) en ci rfl rfl sc hx R λρ1 s1 ge r1 x1 n1 f1=>⟨ge,ρ1,_,rfl,r1,x1,n1,f1,rfl⟩) (λi xs e=>by cases e;decide) (λj τ e=>by subst e;exact⟨true,rfl⟩) ?_ ?_
 .rintro j τ v ρ' s' w E' rfl hv r vw
  obtain⟨i,hi,rfl,hm⟩:=kN (V.int true) hv;obtain⟨_,_,k2⟩:=d8 (c:=C b) G.X (show gQ ⟨e7 (hY S) (xs.take 40,iN ((xs.take 40).take j) 7) [fg (xs.take 40)],[],[]⟩ 0 lO (.int true i)=some ⟨e7 (hY S++[(lO,.int true i)]) (xs.take 40,iN ((xs.take 40).take j) 7) [fg (xs.take 40)],[],[]⟩ from rfl);refine k2 A env s' ρ' w _ E' (en.grow r.grow) lo r.rel vw λs1 r1=>?_;refine ak (Fc G (i:=i) rm (en.grow (r.trans r1).grow) cm rfl r1.rel (cv.res (r.trans r1)) λρ2 s2 r2=>aM ⟨rfl,ρ2,_,fb (List.range 4),r1.trans r2,?_⟩);have e:iN ((xs.take 40).take (j+1)) 7=(iN ((xs.take 40).take j) 7*31+i).fmod 1000003:=by
   have h1:(xs.take 40)[j]?=some i:=by rw[<-dP];exact hi
   rw[List.take_add_one,h1,Option.toList_some,uB]
  rw[e];exact dg.sel (I':=[.frame (hY S++[(lO,.int true i)]),fg (xs.take 40),gM 1 ((iN ((xs.take 40).take j) 7*31+i).fmod 1000003),fg (xs.take 40)]) rfl () (fj rfl) (.k (.f (.k rfl .v .z)) (.k (.l (.ints _)) (.k (.l (.k (.o rfl) (.k .i .z))) (.k (.l (.ints _)) .z))))
 .rintro τ ρ' s' rfl r
  have hL:((xs.take 40).take (qX.lst 3 ((xs.take 40).map (V.int true))).len)=xs.take 40:=by
   show(xs.take 40).take ((xs.take 40).map (V.int true)).length=_;rw[af,cG]
  rw[hL] at r;exact q ρ' s' r
def Ek:ME:=.call (.glb BV) [.cst (.str su),.cst .none,.cst (.str sK)]
abbrev CP:Sk Stmt:=.asgP (.l [.tgt cT,.cel eH]) (.l [.cmp (qh 2) .Eq (.cst (.int 1)),.mb Ek (.call .any .any)])
theorem wk{ts vs:List Expr}{k k':Nat}{p p':Pos}{env:Env}(hk:env.scope.kind= .function)(h1:ts.length=2)(h2:vs.length=2)(h3:uQ vs=false)(h4:(g0 env.scope ts).length≠2):swappedStores [.Tuple ts k p] (.Tuple vs k' p') env=pure none:=by
 have bk:(env.blockKind != .function)=false:=by
  unfold Env.blockKind;rw[hk];rfl
 unfold swappedStores;have a1:(!(ts.length==2||ts.length==3)||vs.length != ts.length||env.blockKind != .function)=false:=by
  rw[h1,bk,h2];rfl
 have a4:((g0 env.scope ts).length != ts.length||(g0 env.scope ts).eraseDups.length != (g0 env.scope ts).length)=true:=by
  rw[h1];simp [h4]
 dsimp only;have no:∀{b:Bool},b=false->¬b=true:=λe=>by rw[e];exact b8
 refine(if_neg (no a1)).trans ?_;refine(if_neg (no h3)).trans ?_;exact if_pos a4
section
variable(sp:jC) (sl:jz) (r:Nat)
theorem KK(F c1 c2 c3:O):Option.map qD ((ev (Pg (fe []) sp sl r) 20).e Ek 0 ⟨[F,c1,c2,c3],[],[]⟩)=
  some (.obj 4,[F,c1,c2,c3,.inst 196 [(du,.str false su),(g8,.none),(iS,.str false sK)],.frame [(cV,.obj 4),(du,.str false su),(g8,.none),(iS,.str false sK)]],[]):=by
 walk_at"k"
end
nonrec theorem D2{b:Bs}{env:Env}{A:Around}{E:Value->Shared->Prop}{p:List Int×Int}{ge:List Int}{S:Addr}{x:Stmt}{s₀ s:Shared}{ρ9 ρ:List Addr}{σ0:List O}{cr:Addr}{Q:Flow->Shared->Prop}(G:dI b)(rm:ee A 40)(en:dE env 0 ρ)(ck:fE env.scope CP x)(hb:ik p)(R0:(C b).R ρ9 σ0 s₀.heap)(h1:σ0.length<=1)(r:(C b).Rs ρ9 σ0 s₀ ρ (e7 (hY S) p [fg ge]) s)(cv:gR env ρ (e7 (hY S) p [fg ge]) s.heap ey 2)(hc:env.cells.lookup (nmT eH)=some cr)(hv:s.heap.IsCell cr none)(nf:cr∉dA ρ (e7 (hY S) p [fg ge]))(hn:s₀.heap.get? cr=none)(hne:∀ca,env.cells.lookup (nmT ey)=some ca->ca≠cr)(q:∀ρ' s',(C b).Rs ρ9 σ0 s₀ ρ' (e7 [(cT,.bool (decide ((take 2 p).1=1)))] (take 2 p).2 [cY]) s'->gR env ρ' (e7 [(cT,.bool (decide ((take 2 p).1=1)))] (take 2 p).2 [cY]) s'.heap ey 2->gR env ρ' (e7 [(cT,.bool (decide ((take 2 p).1=1)))] (take 2 p).2 [cY]) s'.heap eH 3->dE env 0 ρ'->Q .next s'):wpAny (C b).M A (exec (bE CP x) env) Q E s:=by
 obtain⟨hsw,⟨la,lr,_⟩,⟨ct,_⟩,⟨cn,_⟩,_⟩:=ck;have big:=dv;refine cC (cN (aF (wpAny_Compare1 (ng G (rm.less ()) en ct hb () r.rel cv λρ1 s1 y1 r1 v1=>aR ?_)))) rfl (wk en.kind rfl rfl rfl hsw);have r2:=r1.trans (eR.more0 (s':={s1 with toks:=s1.toks+1}) r1.rel (λI I e=>e) rfl rfl);refine(uD (c:=C b) (n:=0) (op:=.Eq) (a:=.int true (take 2 p).1) (b:=.int false 1) (st:=⟨e7 (hY S) (take 2 p).2 [fg ge],[.b (decide ((take 2 p).1=1))],[]⟩) (C':=⟨e7 (hY S) (take 2 p).2 [fg ge],[],[decide ((take 2 p).1=1)=decide ((take 2 p).1=1)]⟩) (r:=decide ((take 2 p).1=1)) rfl (λP m=>by cases aj.mp m;rfl)).2.2 A _ ρ1 y1 _ _ E (rm.less ()) r2.rel (λI I e=>by cases e) v1 ⟨_,rfl⟩ ?_;refine aF (jf G (KK _ _ 0 (.frame (hY S)) (fg (take 2 p).2.1) (gM 1 (take 2 p).2.2) (fg ge)) trivial rfl (rm.less ()) (en.grow r2.grow) cn r2.rel λρ3 s3 y3 r3 v3=>aN ⟨by show 2<=_;omega,?_⟩);generalize hB:decide ((take 2 p).1=1)=B at q;have r23:=r.trans (r2.trans r3);show wpAny (C b).M A (assign (.Tuple [.Name (nmT cT) (kQ (ic (kL (sG x)))),.Name (nmT eH) (kQ (ic (kL (sG x)).tail))] (de (sG x)).n (kQ (sG x))) env (.ref s3.heap.objs.size)) _ E _;have kp0:∀b o,s3.heap.get? b=some o->(s3.heap.push {cls:=.type "tuple",data:=.seq [Value.bool B,y3].toArray}).get? b=some o:=λb o e=>ae _ e;refine wpAny_assign_Tuple rm.handled (items:=[Value.bool B,y3].toArray) ⟨_,aB _ rfl,rfl,0,rfl⟩ rfl rfl λh' xb=>?_;have kp:∀b o,s3.heap.get? b=some o->h'.get? b=some o:=λb o e=>xb b o (bG (ay (kp0 b o e))) (kp0 b o e);have r4:=r3.trans (eR.more0 (s':={s3 with heap:=h'}) r3.rel kp rfl rfl);have r24:=r.trans (r2.trans r4);show wpAny (C b).M A (assignInOrder [assign (.Name (nmT cT) (kQ (ic (kL (sG x))))) env,assign (.Name (nmT eH) (kQ (ic (kL (sG x)).tail))) env] [Value.bool B,y3]) _ E {s3 with heap:=h'};refine aa (aU (bN ?_));obtain⟨_,_,k5⟩:=d8 (c:=C b) G.X (show gQ ⟨[.frame (hY S),fg (take 2 p).2.1,gM 1 (take 2 p).2.2,fg ge,.inst 196 [(du,.str false su),(g8,.none),(iS,.str false sK)],.frame [(cV,.obj 4),(du,.str false su),(g8,.none),(iS,.str false sK)]],[],[]⟩ 0 cT (.bool B)=
  some ⟨[.frame (hY S++[(cT,.bool B)]),fg (take 2 p).2.1,gM 1 (take 2 p).2.2,fg ge,.inst 196 [(du,.str false su),(g8,.none),(iS,.str false sK)],.frame [(cV,.obj 4),(du,.str false su),(g8,.none),(iS,.str false sK)]],[],[]⟩ from rfl)
 refine k5 A env {s3 with heap:=h'} ρ3 (.bool B) _ E (en.grow (r2.trans r4).grow) la r4.rel rfl λs5 r5=>?_;have r25:=(r2.trans r4).trans r5;have T:dg (C b) 1 (fb [0,1,2,4]) [.frame (hY S++[(cT,.bool B)]),fg (take 2 p).2.1,gM 1 (take 2 p).2.2,fg ge,.inst 196 [(du,.str false su),(g8,.none),(iS,.str false sK)],.frame [(cV,.obj 4),(du,.str false su),(g8,.none),(iS,.str false sK)]] (·=e7 [(cT,.bool B)] (take 2 p).2 [cY]):=
  dg.sel (I':=[.frame (hY S++[(cT,.bool B)]),fg (take 2 p).2.1,gM 1 (take 2 p).2.2,.inst 196 [(du,.str false su),(g8,.none),(iS,.str false sK)]]) rfl () (fj rfl) (.k (.f (.k rfl .b .z)) (.k (.l (.ints _)) (.k (.l (.k (.o rfl) (.k .i .z))) (.k (.x (.k .s (.k .n (.k .s .z)))) .z))))
 refine aa (aU (bN ?_));have r05:=r.trans r25;obtain⟨ρ6,σ6,rfl,r6,g6,keep6,ft6,_⟩:=eR.tell (c:=C b) r05 T h1 R0.len;have old:∀ca o,s.heap.get? ca=some o->ca∉dA ρ (e7 (hY S) p [fg ge])->s5.heap.get? ca=some o/\ca∉dA ρ6 (e7 [(cT,.bool B)] (take 2 p).2 [cY]):=λca o e m=>by
  refine⟨r25.keep ca o e m,λm'=>?_⟩;rcases r25.fresh ca (ft6 ca m') with z | z
  .exact m z
  .rw[e] at z;cases z
 obtain⟨oc,hoc,hdc⟩:=hv;obtain⟨hc5,nf5⟩:=old cr oc hoc nf;refine wpAny_storeName_cell en.kind lr hc ⟨oc,hc5,hdc⟩ λh'' hc'' sb=>?_;have r7:(C b).Rs ρ9 σ0 s₀ ρ6 (e7 [(cT,.bool B)] (take 2 p).2 [cY]) {s5 with heap:=h''}:=by
  refine eR.off2 r6 R0 (λz' t=>?_) nf5 (.inl hn) (λb o hb e=>by rw[sb.2 b hb];exact e) rfl rfl;obtain⟨o',ho',_,n',hd'⟩:=t;rw[hc5] at ho';cases ho';rw[hdc] at hd';cases hd'
 obtain⟨kb,ca,ab,e1,⟨ob,e2,e2'⟩,e3,e4⟩:=cv;obtain⟨e5,e6⟩:=old ca ob e2 e4;have g3:∀i j a,fb [0,1,2,4] i=some j->nth ρ3 i=some a->nth ρ6 j=some a:=λi j a h e=>g6 i j h a (r5.grow _ _ e);obtain⟨a3,ea3,rfl⟩:=v3;have e30:nth ρ6 0=some env.locals:=g3 0 0 _ rfl ((r2.trans r3).grow _ _ en.loc);refine aE (q ρ6 _ r7 ⟨kb,ca,ab,e1,⟨ob,by rw[sb.2 ca (hne ca e1)];exact e5,e2'⟩,g3 2 2 _ rfl ((r2.trans r3).grow _ _ e3),e6⟩ ⟨lr,cr,a3,hc,hc'',g3 4 3 _ rfl (by rw[dP];exact ea3),nf5⟩ ⟨en.kind,e30,en.glob,en.blt⟩)
def tE(an:Bool)(s:Str)(tl:List (Nm×V)):List (Nm×V):=[(cT,.bool an),(cS,.str true s),(hK,.obj 4),(gW,.obj 5)]++tl
abbrev j4(an:Bool)(s:Str)(tl:List (Nm×V))(p:List Int×Int)(fp bp:List dZ)(os:List O):List O:=e7 (tE an s tl) p (cY:: .list true (fp.map (db 3)):: .list true (bp.map (db 3))::os)
def H7:MS:=.asg cU (.tup [.cst (.str fO),.loc dU,.loc cU])
def Ig:MS:=.asg cU (.tup [.cst (.str fO),.loc cU,.loc dU])
def EE:MS:=.asg cU (.tup [.cst (.str gz)])
section
variable(sp:jC) (sl:jz) (r:Nat)
section
variable(an:Bool) (s:Str) (i z f bh l:O) (N P:V)
theorem Ll:Option.map pT (jk (Pg (fe []) sp sl r) (ev (Pg (fe []) sp sl r) 20) EE 0 ⟨.frame (tE an s [])::i::z::cY::f::bh::[],[],[]⟩)=
  some (.next,.frame (tE an s [(cU,.tup [.str false gz])])::i::z::cY::f::bh::[],[]):=by walk_at"k"
theorem JQ:Option.map pT (jk (Pg (fe []) sp sl r) (ev (Pg (fe []) sp sl r) 20) H7 0 ⟨.frame (tE an s [(cU,N),(dU,P)])::i::z::cY::f::bh::[l],[],[]⟩)=
  some (.next,.frame (tE an s [(cU,.tup [.str false fO,P,N]),(dU,P)])::i::z::cY::f::bh::[l],[]):=by walk_at"k"
theorem IE:Option.map pT (jk (Pg (fe []) sp sl r) (ev (Pg (fe []) sp sl r) 20) Ig 0 ⟨.frame (tE an s [(cU,N),(dU,P)])::i::z::cY::f::bh::[],[],[]⟩)=
  some (.next,.frame (tE an s [(cU,.tup [.str false fO,N,P]),(dU,P)])::i::z::cY::f::bh::[],[]):=by walk_at"k"
theorem K3:(ev (Pg (fe []) sp sl r) 20).e (.loc gW) 0 ⟨.frame (tE an s [(cU,N)])::i::z::cY::f::bh::[],[],[]⟩=
  some (.obj 5,⟨.frame (tE an s [(cU,N)])::i::z::cY::f::bh::[],[],[]⟩):=by walk_at"k"
end
end
section
variable{an:Bool}
theorem Jt{f:Nat->Option Nat}{s:Str}{tl tl':List (Nm×V)}(h4:f 4=some 4)(h5:f 5=some 5)(k:FrR f (tE an s tl) tl'):FrR f (tE an s tl) (tE an s tl'):=
 .k rfl .b (.k rfl .s (.k rfl (.o h4) (.k rfl (.o h5) k)))
theorem uX{f:Nat->Option Nat}{s:Str}{p:List Int×Int}{fp bp:List dZ}{tl tl':List (Nm×V)}{os H':List O}(h:∀i,i<6->f i=some i)(k:FrR f (tE an s tl) tl')(ho:ROs f os H'):ROs f (j4 an s tl p fp bp os) (j4 an s tl' p fp bp H'):=
 .k (.f (Jt (h 4 ()) (h 5 ()) k)) (.k (.l (.ints _)) (.k (.l (.k (.o (h 1 ())) (.k .i .z))) (.k .ref (.k (.l (.parts (h 3 ()) _)) (.k (.l (.parts (h 3 ()) _)) ho)))))
theorem uK{n:Nat}:∀i,i<n->fb (List.range n) i=some i:=λi h=>qo h
theorem i3{n:Nat}(h:3<n):fb (List.range n) 3=some 3:=qo h
theorem Dy{b:Bs}{env:Env}{A:Around}{E:Value->Shared->Prop}(G:dI b){sb:Str}{p:List Int×Int}{fp bp:List dZ}{x:Stmt}{s:Shared}{ρ:List Addr}{Q:Flow->Shared->Prop}(rm:ee A 40)(en:dE env 0 ρ)(ck:gI nmT env.scope EE x)(R:(C b).R ρ (j4 an sb [] p fp bp []) s.heap)
  (q:∀ρ' s',(C b).Rs ρ (j4 an sb [] p fp bp []) s ρ' (j4 an sb [(cU,d6 3 (.lf .suc))] p fp bp []) s'->Q .next s'):wpAny (C b).M A (exec x env) Q E s:=by
 refine jJ G (Ll _ _ 0 an sb (fg p.1) (gM 1 p.2) _ _) trivial rfl (rm.less ()) en ck R λρ1 s1 fl r1 v1=>?_;cases v1;have T:dg (C b) 6 (fb (List.range 6)) (j4 an sb [(cU,.tup [.str false gz])] p fp bp []) (·=j4 an sb [(cU,d6 3 (.lf .suc))] p fp bp []):=
  dg.sel (I':=j4 an sb [(cU,.tup [.str false gz])] p fp bp []) rfl () (fj rfl) (uX uK (.k rfl (.t (.k .s .z)) .z) .z)
 obtain⟨ρ2,σ2,rfl,r2,_⟩:=eR.tell (c:=C b) r1 T (ao 6) R.len;exact q ρ2 s1 r2
abbrev Jq:Sk Stmt:=.for_ (.tgt dU) (.sub (.loc hK) (.slc .no .no (.opt (.bin (.cst (.int 0)) .Sub (.cst (.int 1)))))) (.l [.x H7])
abbrev yO:Sk Stmt:=.for_ (.tgt dU) (.m (.loc gW)) (.l [.x Ig])
end
nonrec theorem Gm{b:Bs}{env:Env}{A:Around}{E:Value->Shared->Prop}{an:Bool}{sb:Str}{p:List Int×Int}{fp bp:List dZ}{x:Stmt}{ρ:List Addr}{Q:Flow->Shared->Prop}(G:dI b){s:Shared}(rm:ee A 40)(en:dE env 0 ρ)(ck:fE env.scope Jq x)(hfp:fp.length<=100)(R:(C b).R ρ (j4 an sb [(cU,d6 3 (.lf .suc))] p fp bp []) s.heap)(q:∀ρ' s',(C b).Rs ρ (j4 an sb [(cU,d6 3 (.lf .suc))] p fp bp []) s ρ' (j4 an sb [(cU,d6 3 (fh fp))] p fp bp []) s'->Q .next s'):wpAny (C b).M A (exec (bE Jq x) env) Q E s:=by
 obtain⟨lo,⟨⟨lf,df⟩,_⟩,cx,_⟩:=ck;refine rU (c:=C b) (N2:=.lst 6 (fp.reverse.map (db 3))) (k:=7) (λj τ=>τ=j4 an sb [(cU,d6 3 ((fp.reverse.take j).foldl (λn p=>.cat (.lf (.part p)) n) (.lf .suc)))] p fp bp [.list true (fp.reverse.map (db 3))]) R rm.handled (by decide:6<=7) (λI=>rfl) ?_ (λi xs e=>by cases e;decide) (λj τ e=>by subst e;exact⟨true,rfl⟩) ?_ ?_
 .refine nR (hs:=λI I=>⟨_,rfl⟩) (fY G (fi:=0) (v:=.obj 4) rfl rfl en lf df R λy vy=>?_)
  refine jM (jM (qi (cQ (aR (aR (sub_int ?_))))));obtain⟨D,hD,rfl⟩:=vy;rw[<-dP] at hD;obtain⟨z',n,ho,vr⟩:=R.at hD (show nth (j4 an sb [(cU,d6 3 (.lf .suc))] p fp bp []) 4=some (.list true (fp.map (db 3))) from rfl);have lz:z'.length=fp.length:=by have:=vr.length;rw[af] at this;exact this
  refine⟨D,z',none,none,some (-1),rfl,⟨_,ho,rfl,n,rfl⟩,by omega,.none,.none,.int _ _,by simp,λh' kp e=>?_⟩;have ep:slicePick z'.toArray none none (some (-1))=z'.reverse.toArray:=krv_pick z'.toArray;rw[ep] at e;generalize hz:({s with toks:=s.toks+1+1+1}:Shared).heap.objs.size+1=D1 at e;have eD:D1=s.heap.objs.size+1:=hz.symm;have fD:s.heap.get? D1=none:=by
   cases q:s.heap.get? D1 with
   |none=>rfl
   |some o=>have:=ay q;rw[eD] at this;exact absurd this (cF.mpr (au _))
  have r1:(C b).Rs ρ (j4 an sb [(cU,d6 3 (.lf .suc))] p fp bp []) s (ρ++[D1]) (j4 an sb [(cU,d6 3 (.lf .suc))] p fp bp []++[.list true (fp.reverse.map (db 3))]) {{s with toks:=s.toks+1+1+1} with heap:=h'}:=
   eR.pushC (o:=.list true (fp.reverse.map (db 3))) R kp (λx m=>by cases aj.mp m;exact fD) ⟨z'.reverse,0,e,by rw[List.map_reverse];exact(vr.up (.app _ _) (.of_keeps kp)).rev⟩ rfl rfl (by
    have:=ay e;rw[eD] at this;exact aZ (bw (au _) this))
  refine wpAny_pyIter_list (items:=z'.reverse.toArray) ⟨_,e,rfl,0,rfl⟩ ?_;have k2:∀b o,h'.get? b=some o->(h'.push {cls:=.type "list_iterator",data:=.fields #[.ref D1,.int 0 0]}).get? b=some o:=λb o e=>ae _ e;have eN:nth (ρ++[D1]) 6=some D1:=by have:=gr ρ D1;rw[R.len] at this;exact this
  refine⟨_,ρ++[D1],_,rfl,r1.trans (eR.more0 r1.rel k2 rfl rfl),⟨D1,eN,_,aB _ rfl,rfl,rfl⟩,λm=>?_,?_,rfl⟩
  .obtain⟨o,e⟩:=r1.rel.there m
   exact absurd (ay e) (bD _)
  .by_cases m:h'.objs.size∈dA ρ (j4 an sb [(cU,d6 3 (.lf .suc))] p fp bp [])
   .exact .inr m
   .cases e:s.heap.get? h'.objs.size with
    |none=>exact .inl rfl
    |some o=>exact absurd (ay (kp _ o e)) (bD _)
 .rintro j τ v ρ' s' w E' rfl hv r vw
  obtain⟨pt,hp,rfl,_⟩:=kN (db 3) hv;generalize hN:(fp.reverse.take j).foldl (λn p=>Nd.cat (.lf (.part p)) n) (.lf .suc)=N at r;obtain⟨_,_,k2⟩:=d8 (c:=C b) G.X (show gQ ⟨j4 an sb [(cU,d6 3 N)] p fp bp [.list true (fp.reverse.map (db 3))],[],[]⟩ 0 dU (db 3 pt)=some ⟨j4 an sb [(cU,d6 3 N),(dU,db 3 pt)] p fp bp [.list true (fp.reverse.map (db 3))],[],[]⟩ from rfl);refine k2 A env s' ρ' w _ E' (en.grow r.grow) lo r.rel vw λs1 r1=>?_;refine ak (jJ G (JQ _ _ 0 an sb (fg p.1) (gM 1 p.2) _ _ _ (d6 3 N) (db 3 pt)) trivial rfl (rm.less ()) (en.grow (r.trans r1).grow) cx r1.rel λρ2 s2 fl r2 v2=>?_);cases v2;refine aM ⟨rfl,ρ2,_,fb (List.range 7),r1.trans r2,?_⟩;have e:(fp.reverse.take (j+1)).foldl (λn p=>Nd.cat (.lf (.part p)) n) (.lf .suc)= .cat (.lf (.part pt)) N:=by
   have h1:fp.reverse[j]?=some pt:=by rw[<-dP];exact hp
   rw[List.take_add_one,h1,Option.toList_some,List.foldl_append,hN];rfl
  rw[e];exact dg.sel (I':=j4 an sb [(cU,.tup [.str false fO,db 3 pt,d6 3 N]),(dU,db 3 pt)] p fp bp [.list true (fp.reverse.map (db 3))]) rfl () (fj rfl)
   (uX (λi hi=>uK (n:=7) i (by omega)) (.k rfl (.t (.k .s (.k (.part (i3 (n:=7) ()) pt) (.k (.nd (i3 (n:=7) ()) N) .z)))) .z) (.k (.l (.parts (i3 (n:=7) ()) _)) .z))
 .rintro τ ρ' s' rfl r
  have hL:fp.reverse.take (qX.lst 6 (fp.reverse.map (db 3))).len=fp.reverse:=by
   show fp.reverse.take (fp.reverse.map (db 3)).length=_;rw[af,cG]
  rw[hL,show fp.reverse.foldl (λn p=>Nd.cat (.lf (.part p)) n) (.lf .suc)=fh fp from by rw[List.foldl_reverse];rfl] at r;have T:dg (C b) 6 (fb (List.range 6)) (j4 an sb [(cU,d6 3 (fh fp))] p fp bp [.list true (fp.reverse.map (db 3))]) (·=j4 an sb [(cU,d6 3 (fh fp))] p fp bp []):=
   dg.sel (I':=j4 an sb [(cU,d6 3 (fh fp))] p fp bp []) rfl () (fj rfl) (uX uK (.k rfl (.nd (i3 (n:=6) ()) _) .z) .z)
  obtain⟨ρ2,σ2,rfl,r2,_⟩:=eR.tell (c:=C b) r T (ao 6) R.len;exact q ρ2 s' r2
nonrec theorem Bd{b:Bs}{env:Env}{A:Around}{E:Value->Shared->Prop}{an:Bool}{sb:Str}{p:List Int×Int}{fp bp:List dZ}{x:Stmt}{s:Shared}{ρ:List Addr}{Q:Flow->Shared->Prop}(G:dI b)(rm:ee A 40)(en:dE env 0 ρ)(ck:fE env.scope yO x)(R:(C b).R ρ (j4 an sb [(cU,d6 3 (fh fp))] p fp bp []) s.heap)(q:∀ρ' s',(C b).Rs ρ (j4 an sb [(cU,d6 3 (fh fp))] p fp bp []) s ρ' (j4 an sb [(cU,d6 3 (fu fp bp))] p fp bp []) s'->Q .next s'):wpAny (C b).M A (exec (bE yO x) env) Q E s:=by
 obtain⟨lo,ci,cx,_⟩:=ck;refine rU (c:=C b) (N2:=.lst 5 (bp.map (db 3))) (k:=6) (λj τ=>τ=j4 an sb [(cU,d6 3 ((bp.take j).foldl (λn p=>.cat n (.lf (.part p))) (fh fp)))] p fp bp []) R rm.handled (by decide:6<=6) (λv=>mi ci (by intro z;cases z) env v) ?_ (λi xs e=>by cases e;decide) (λj τ e=>by subst e;exact⟨true,rfl⟩) ?_ ?_
 .have it0:=kK (c:=C b) (r:=0) (orc:=fe []) (n:=20) (fi:=0) (i:=5) (xs:=bp.map (db 3)) (y:=true) G.X G.F (dD G rfl) (K3 (Ct b 0) (Lt b 0) 0 an sb (fg p.1) (gM 1 p.2) (.list true (fp.map (db 3))) (.list true (bp.map (db 3))) (d6 3 (fh fp))) (λI m=>by cases m) rfl
  exact it0 A env _ s ρ _ E (rm.less (show 20+0<=40 by decide)) en ci R (λI I e=>by cases e) λρ1 s1 ge r1 x1 n1 f1=>⟨ge,ρ1,_,rfl,r1,x1,n1,f1,rfl⟩
 .rintro j τ v ρ' s' w E' rfl hv r vw
  obtain⟨pt,hp,rfl,_⟩:=kN (db 3) hv;generalize hN:(bp.take j).foldl (λn p=>Nd.cat n (.lf (.part p))) (fh fp)=N at r;obtain⟨_,_,k2⟩:=d8 (c:=C b) G.X (show gQ ⟨j4 an sb [(cU,d6 3 N)] p fp bp [],[],[]⟩ 0 dU (db 3 pt)=some ⟨j4 an sb [(cU,d6 3 N),(dU,db 3 pt)] p fp bp [],[],[]⟩ from rfl);refine k2 A env s' ρ' w _ E' (en.grow r.grow) lo r.rel vw λs1 r1=>?_;refine ak (jJ G (IE _ _ 0 an sb (fg p.1) (gM 1 p.2) _ _ (d6 3 N) (db 3 pt)) trivial rfl (rm.less ()) (en.grow (r.trans r1).grow) cx r1.rel λρ2 s2 fl r2 v2=>?_);cases v2;refine aM ⟨rfl,ρ2,_,fb (List.range 6),r1.trans r2,?_⟩;have e:(bp.take (j+1)).foldl (λn p=>Nd.cat n (.lf (.part p))) (fh fp)= .cat N (.lf (.part pt)):=by
   have h1:bp[j]?=some pt:=by rw[<-dP];exact hp
   rw[List.take_add_one,h1,Option.toList_some,List.foldl_append,hN];rfl
  rw[e];exact dg.sel (I':=j4 an sb [(cU,.tup [.str false fO,d6 3 N,db 3 pt]),(dU,db 3 pt)] p fp bp []) rfl () (fj rfl)
   (uX uK (.k rfl (.t (.k .s (.k (.nd (i3 (n:=6) ()) N) (.k (.part (i3 (n:=6) ()) pt) .z)))) .z) .z)
 .rintro τ ρ' s' rfl r
  have hL:bp.take (qX.lst 5 (bp.map (db 3))).len=bp:=by
   show bp.take (bp.map (db 3)).length=_;rw[af,cG]
  rw[hL] at r;exact q ρ' s' r
def ET:MS:=.asgT [kX,iO] (.call (.glb yH) [.loc hK,.loc gW,.loc cS,.loc cT])
def gy(n:Nat):ii->V
 | .none _=>.tup [.str true js]
 | .round _=>.tup [.str true jZ,.obj (n+1)]
 | .met j e _=>.tup [.str true lV,.int true (j:Int),.int true (e:Int),.obj (n+1)]
theorem FI(n:Nat)(y:ii):Jx n y= .tup [gy n y,.obj n]:=by cases y<;>rfl
abbrev Do:Sk Stmt:=.asg (.tgt dK) (AB 200 60)
section
variable(sp:jC) (sl:jz) (r:Nat)
theorem Ko(an:Bool)(s:Str)(i z f bh ah:O)(N L W:V)(tl:List O):Option.map pT (jk (Pg (fe [671]) sp sl r) (ev (Pg (fe [671]) sp sl r) 20) ET 0 ⟨.frame (tE an s [(cU,N),(dK,L)])::i::z::cY::f::bh::[],[.k (.tup [W,.obj 6]) (.frame (tE an s [(cU,N),(dK,L)])::i::z::cY::f::bh::ah::tl)],[]⟩)=
  some (.next,.frame (tE an s [(cU,N),(dK,L),(kX,W),(iO,.obj 6)])::i::z::cY::f::bh::ah::tl,[sp 671 [.obj 4,.obj 5,.str true s,.bool an] (.frame (tE an s [(cU,N),(dK,L)])::i::z::cY::f::bh::[]) (.tup [W,.obj 6]) (.frame (tE an s [(cU,N),(dK,L)])::i::z::cY::f::bh::ah::tl)]):=by walk_at"k"
end
section
variable{an:Bool} {sb:Str} {fp bp:List dZ}
theorem Ff{b:Bs}{env:Env}{A:Around}{E:Value->Shared->Prop}(G:dI b){N:V}{p:List Int×Int}{x:Stmt}{s:Shared}{ρ:List Addr}{Q:Flow->Shared->Prop}(rm:ee A 40)(en:dE env 0 ρ)(ck:fE env.scope Do x)(hb:ik p)(R:(C b).R ρ (j4 an sb [(cU,N)] p fp bp []) s.heap)(cv:gR env ρ (j4 an sb [(cU,N)] p fp bp []) s.heap ey 2)
  (q:∀ρ' s',(C b).Rs ρ (j4 an sb [(cU,N)] p fp bp []) s ρ' (j4 an sb [(cU,N),(dK,.int true ((200+(take 60 p).1.toNat:Nat):Int))] (take 60 p).2 fp bp []) s'->Q .next s'):wpAny (C b).M A (exec (bE Do x) env) Q E s:=by
 obtain⟨hl,ce⟩:=ck;have hm:(200:Int)+(take 60 p).1=((200+(take 60 p).1.toNat:Nat):Int):=by
  have:=(jD (lim:=60) () p).1;omega
 refine cA (xa G (rm.less ()) en ce hb () R cv λρ1 s1 y r1 v1=>?_) (gA rfl _ _ _);rw[hm] at v1;obtain⟨_,_,k2⟩:=d8 (c:=C b) G.X (show gQ ⟨j4 an sb [(cU,N)] (take 60 p).2 fp bp [],[],[]⟩ 0 dK (.int true ((200+(take 60 p).1.toNat:Nat):Int))=some ⟨j4 an sb [(cU,N),(dK,.int true ((200+(take 60 p).1.toNat:Nat):Int))] (take 60 p).2 fp bp [],[],[]⟩ from rfl);exact k2 A env s1 ρ1 y _ E (en.grow r1.grow) hl r1.rel v1 λs2 r2=>q ρ1 s2 (r1.trans r2)
theorem J9{b:Bs}(G:dI b){tl:List (Nm×V)}{p:List Int×Int}{x:ii×List LE}(hs:sb.length<=8)(hf:fp.length<=8)(hb:bp.length<=8)(hx:wm sb fp bp an=x):
  Ct b 120 671 [.obj 4,.obj 5,.str true sb,.bool an] (j4 an sb tl p fp bp []) (.tup [gy 6 x.1,.obj 6]) (j4 an sb tl p fp bp (.list true (x.2.map d4)::xA x.1)):=by
 have q:=fJ.frame (l:=[3,4,5]) (os:=j4 an sb tl p fp bp []) (I':=[cY,.list true (fp.map (db 3)),.list true (bp.map (db 3))]) (news:=[cY,.list true (fp.map (db 3)),.list true (bp.map (db 3)),.list true (x.2.map d4)]++xA x.1) (vs:=[.obj 4,.obj 5,.str true sb,.bool an]) (w:=Jx 6 x.1) rfl (Ln G (λI=>.ref) hs hf hb hx) rfl ()
  (.k .ref (.k (.l (.parts (r:=3) (r':=0) rfl _)) (.k (.l (.parts (r:=3) (r':=0) rfl _)) .z))) (.k (.o rfl) (.k (.o rfl) (.k .s (.k .b .z))))
  (.k .ref (.k (.l (.parts (r:=0) (r':=3) rfl _)) (.k (.l (.parts (r:=0) (r':=3) rfl _)) (.k (.l (.les _)) (by cases x.1 with | none w=>exact .z | round rs=>exact .k (.l (.les _)) .z | met j e ns=>exact .k (.l (.nms _)) .z)))))
  (by cases x.1 with | none w=>exact .t (.k (.t (.k .s .z)) (.k (.o rfl) .z)) | round rs=>exact .t (.k (.t (.k .s (.k (.o rfl) .z))) (.k (.o rfl) .z)) | met j e ns=>exact .t (.k (.t (.k .s (.k .i (.k .i (.k (.o rfl) .z))))) (.k (.o rfl) .z)))
 rw[<-FI];exact q
theorem DJ{b:Bs}{env:Env}{A:Around}{E:Value->Shared->Prop}(G:dI b){N L:V}{p:List Int×Int}{x:Stmt}{y:ii×List LE}{s:Shared}{ρ:List Addr}{Q:Flow->Shared->Prop}(rm:ee A 150)(en:dE env 0 ρ)(ck:gI nmT env.scope ET x)(hs:sb.length<=8)(hf:fp.length<=8)(hb:bp.length<=8)(hy:wm sb fp bp an=y)(R:(C b).R ρ (j4 an sb [(cU,N),(dK,L)] p fp bp []) s.heap)
  (q:∀ρ' s',(C b).Rs ρ (j4 an sb [(cU,N),(dK,L)] p fp bp []) s ρ' (j4 an sb [(cU,N),(dK,L),(kX,gy 6 y.1),(iO,.obj 6)] p fp bp (.list true (y.2.map d4)::xA y.1)) s'->Q .next s'):wpAny (C b).M A (exec x env) Q E s:=by
 refine jJ G (Ko ..) ⟨J9 G hs hf hb hy,N4⟩ () (rm.less ()) en ck R λρ1 s1 fl r1 v1=>?_;cases v1;exact q ρ1 s1 r1
end
/-! texts that are texts of the model's language -/
def q9(s:Str):Prop:=∀c∈s.cps.toList,c<0x110000
theorem q9.ok{s:Str}(h:q9 s):PyData.strOk s:=by
 unfold PyData.strOk;rw[Array.all_eq_true'];intro c m;have:=h c (by simpa using m)
 simpa using this
theorem q9.sub{s t:Str}(h:q9 s)(k:∀c∈t.cps.toList,c∈s.cps.toList):q9 t:=λc m=>h c (k c m)
theorem q9.cut{s:Str}(h:q9 s)(a e:Nat):q9 (cut s a e):=by
 refine h.sub λc m=>?_;unfold Internal.cut Txt.slice at m
 split at m
 .exact m
 .simp only[List.mem_filterMap] at m
  obtain⟨i,_,e⟩:=m;exact Array.mem_toList_iff.mpr (Array.mem_of_getElem? e)
theorem B5(k:Int):q9 (yt k):=by
 intro c m;have m:c∈[lU.cps.getD k.toNat 0]:=m;cases aj.mp m;have:∀n,lU.cps.getD n 0<0x110000:=λn=>by
  match n with
  |0=>decide
  |1=>decide
  |n+2=>exact(by decide:(0:Nat)<0x110000)
 exact this _
theorem tm:∀n p,∀y∈(dm n p).1,q9 y
 |0,_,_,m=>by cases m
 |n+1,p,y,m=>by
  rcases bj.mp (show y∈(dm n p).1++[_] from m) with m | m
  .exact tm n p y m
  .cases aj.mp m;exact B5 _
theorem Az:∀(l:List Str) (a:Array Nat),(∀c∈a.toList,c<0x110000)->(∀y∈l,q9 y)->∀c∈(l.foldl (λB' p=>B'++(⟨#[]⟩:Str).cps++p.cps) a).toList,c<0x110000
 |[],a,ha,_=>ha
 |y::l,a,ha,h=>by
  refine Az l _ (λc m=>?_) λz mz=>h z (.tail _ mz);rw[Array.toList_append,Array.toList_append] at m;rcases bj.mp m with m | m
  .rcases bj.mp m with m | m
   .exact ha c m
   .cases m
  .exact h y (.head _) c m
theorem FT{l:List Str}(h:∀y∈l,q9 y):q9 (Txt.join ⟨#[]⟩ l):=by
 cases l with
 |nil=>intro c m;cases m
 |cons x l=>exact Az l x.cps (h x (.head _)) λz mz=>h z (.tail _ mz)
def CF:LE->Prop
 | .at _=>True
 | .tx s=>q9 s
theorem rx{α:Type}{P:α->Prop}{l r:List α}(a:∀x∈l,P x)(b:∀x∈r,P x):∀x∈l++r,P x:=λx m=>(bj.mp m).elim (a x) (b x)
theorem th{α:Type}{P:α->Prop}{l:List α}{y:α}(a:∀x∈l,P x)(b:P y):∀x∈l++[y],P x:=rx a λI m=>aj.mp m▸b
def MM(_:List dZ)(_:Nat)(_:Bool)(ns:List Str)(lg:List LE)(x:fP×List LE):Prop:=(∀y∈ns,q9 y)->(∀x∈lg,CF x)->(∀y∈x.2,CF y)/\∀a' N0 f',x.1= .ok a' N0 f'->∀y∈N0,q9 y
theorem Ed(s:Str)(hs:q9 s)(ps:List dZ)(a:Nat)(f:Bool)(ns:List Str)(lg:List LE):MM ps a f ns lg (d3 s ps a f ns lg):=by
 refine oF (P:=MM) (λI I I I hn hl=>⟨hl,λI I I e=>?_⟩) (λI I I I I I h hn hl=>h hn (th hl trivial)) (λI I I I I I I I I hl=>⟨hl,λI I I e=>by injection e⟩) (λI I I I f I I I I I hl=>⟨hl,λI I I e=>by cases f<;>injection e⟩) (λm I I a I I I e I I I h hn hl=>?_) ps a f ns lg
 .injection e with _ e2
  exact e2▸hn
 .cases m with
  |bare=>exact h hn hl
  |now=>exact h hn (th hl (hs.cut a e))
  |later=>exact h (th hn (hs.cut a e)) hl
def LD:ii->Prop
 | .none _=>True
 | .round rs=>∀x∈rs,CF x
 | .met _ _ ns=>∀y∈ns,q9 y
theorem EY(s:Str)(hs:q9 s)(fp bp:List dZ):∀(n j:Nat) (lg:List LE),(∀x∈lg,CF x)->LD (l8 s fp bp n j lg).1/\∀x∈(l8 s fp bp n j lg).2,CF x
 |0,_,lg,h=>⟨N4,h⟩
 |n+1,j,lg,h=>by
  have q:=Ed s hs fp j false [] lg (λI m=>by cases m) h;rw[kU];cases c1:d3 s fp j false [] lg with
  |mk y L'=>
   rw[c1] at q;cases y with
   |over=>exact⟨N4,q.1⟩
   |no=>exact EY s hs fp bp n (j+1) L' q.1
   |ok a ns f=>
    dsimp only;have q2:=Ed s hs bp a false [] [] (λI m=>by cases m) (λI m=>by cases m);cases c2:d3 s bp a false [] [] with
    |mk z rs=>
     rw[c2] at q2;cases z with
     |over=>exact⟨N4,rx q.1 q2.1⟩
     |no=>exact⟨q2.1,q.1⟩
     |ok e ms g=>exact⟨rx (q.2 _ _ _ rfl) (q2.2 _ _ _ rfl),rx q.1 q2.1⟩
/-! values as data -/
mutual
noncomputable def dV:V->PyData
 | .bool b=>.bool b
 | .int _ i=>.int i
 | .str _ s=>.str s
 | .tup vs=>.tuple (CB vs)
 |_=>.none
noncomputable def CB:List V->List PyData
 |[]=>[]
 |v::vs=>dV v::CB vs
end
mutual
noncomputable def uC:V->Bool
 | .none=>true
 | .bool _=>true
 | .int _ _=>true
 | .str _ _=>true
 | .tup vs=>pZ vs
 |_=>false
noncomputable def pZ:List V->Bool
 |[]=>true
 |v::vs=>uC v&&pZ vs
end
mutual
theorem pN{ρ:List Addr}{h:Heap}:∀{v:V} {y:Value},uC v=true->dH ρ h v y->Reads h y (dV v) []
 | .none,_,_,r=>by cases r;exact .none
 | .bool b,_,_,r=>by cases r;exact .bool b
 | .int _ i,_,_,r=>by obtain⟨t,rfl⟩:=r;exact .int i t
 | .str _ s,_,_,r=>by obtain⟨t,rfl⟩:=r;exact .str s t
 | .tup vs,_,f,r=>by
  obtain⟨a,z',rfl,⟨o,ho,hc,n,hd⟩,z⟩:=r;exact reads_tuple_at ho hc hd (rH f z)
 | .obj _,_,f,_=>by injection f
 | .val _,_,f,_=>by injection f
 | .bi _,_,f,_=>by injection f
theorem rH{ρ:List Addr}{h:Heap}:∀{vs:List V} {ys:List Value},pZ vs=true->dy ρ h vs ys->ReadsAll h ys (CB vs) []
 |[],_,_,r=>by cases r;exact .nil
 |v::vs,_,f,r=>by
  obtain⟨y,ys,rfl,r1,r2⟩:=r;have f:(uC v&&pZ vs)=true:=f;obtain⟨f1,f2⟩:=cW f;exact readsAll_cons_val (pN f1 r1) (rH f2 r2)
end
theorem vl{α:Type}(g:α->V):∀l:List α,CB (l.map g)=l.map λx=>dV (g x)
 |[]=>rfl
 |x::l=>az (dV (g x)::·) (vl g l)
theorem iX{α:Type}(g:α->V)(h:∀x,uC (g x)=true):∀l:List α,pZ (l.map g)=true
 |[]=>rfl
 |x::l=>a9.mpr ⟨h x,iX g h l⟩
theorem rh(x:LE):uC (d4 x):=by cases x<;>rfl
theorem Gl(x:Str):uC (nJ x):=rfl
theorem uI{α:Type}(g:α->PyData):∀l:List α,(∀x∈l,(g x).canLay0=true)->PyData.canLayAll0 (l.map g)=true
 |[],_=>rfl
 |x::l,h=>a9.mpr ⟨h x (.head _),uI g l λy m=>h y (.tail _ m)⟩
theorem qA{α:Type}{k:Nat}(g:α->PyData):∀l:List α,(∀x∈l,(g x).depth<=k)->PyData.depthAll (l.map g)<=k
 |[],_=>aJ _
 |x::l,h=>Nat.max_le.mpr ⟨h x (.head _),qA g l λy m=>h y (.tail _ m)⟩
theorem Dl{l:List Nat}(h:∀c∈l,c<0x110000):PyData.strOk ⟨l.toArray⟩:=q9.ok (s:=⟨l.toArray⟩) λc m=>h c (by simpa using m)
theorem DF:PyData.strOk sK:=Dl (l:=[75]) ()
theorem JB{a b:PyData}(h:a.canLay0)(k:b.canLay0):(PyData.tuple [a,b]).canLay0=true:=a9.mpr ⟨h,a9.mpr ⟨k,rfl⟩⟩
theorem I4{x:LE}(h:CF x):(dV (d4 x)).canLay0=true:=by
 cases x with
 |«at» n=>exact JB DF rfl
 |tx s=>exact JB DF (q9.ok h)
theorem E9(x:LE):(dV (d4 x)).depth<=1:=by cases x<;>exact ao 1
theorem Jr{x:Str}(h:q9 x):(dV (nJ x)).canLay0=true:=JB DF h.ok
theorem C0(x:Str):(dV (nJ x)).depth<=1:=ao 1
theorem FN:∀j,j<=2->j≠2->∃bb,[Value.bool true,.bool false].toArray[j]?=some (.bool bb)
 |0,_,_=>⟨_,rfl⟩
 |1,_,_=>⟨_,rfl⟩
 |2,_,h=>absurd rfl h
 |n+3,h,_=>absurd h (by omega)
theorem ER{c:Cx}{env:Env}{A:Around}{E:Value->Shared->Prop}{s:Shared}{ρ:List Addr}{σ:List O}{y:Str}{py pos p1 p2 p3:Pos}{k1 k2 k3:Nat}{body:List Stmt}{Q:Flow->Shared->Prop}(R:c.R ρ σ s.heap)(hh:A.handled=none)
  (turn:∀(bb:Bool) ρ' s' E',c.Rs ρ σ s ρ' σ s'->wpAny c.M A (storeName env y (.bool bb)) (λI s1=>wpAny c.M A (execs body env) (λfl s2=>fl= .next/\∃ρ2 τ2 g,c.Rs ρ' σ s' ρ2 τ2 s2/\dg c σ.length g τ2 (·=σ)) E' s1) E' s')
  (fin:∀ρ' s',c.Rs ρ σ s ρ' σ s'->Q .next s'):wpAny c.M A (exec (.For (.Name y py) (.Tuple [.Constant (.bool true) k1 p1,.Constant (.bool false) k2 p2] k3 p3) body [] pos) env) Q E s:=by
 have big:=dv;refine wpAny_For (cN (aF (wpAny_Constant_bool (aF (wpAny_Constant_bool (aN ⟨by show 2<=_;omega,?_⟩)))))) (λI=>rfl);generalize hT:s.heap.push {cls:=.type "tuple",data:=.seq [Value.bool true,.bool false].toArray}=h1;have et:h1.get? s.heap.objs.size=some {cls:=.type "tuple",data:=.seq [Value.bool true,.bool false].toArray}:=by rw[<-hT];exact aB _ rfl
 have k1':∀b o,s.heap.get? b=some o->h1.get? b=some o:=λb o e=>by rw[<-hT];exact ae _ e
 have ft:s.heap.get? s.heap.objs.size=none:=fA s;refine wpAny_pyIter_tuple (items:=[Value.bool true,.bool false].toArray) (s:={s with heap:=h1}) ⟨_,et,rfl,0,rfl⟩ ?_;have fi:s.heap.get? h1.objs.size=none:=by
  cases q:s.heap.get? h1.objs.size with
  |none=>rfl
  |some o=>exact absurd (ay (k1' _ o q)) (bD _)
 have k2':∀b o,s.heap.get? b=some o->(h1.push {cls:=.type "tuple_iterator",data:=.fields #[.ref s.heap.objs.size,.int 0 0]}).get? b=some o:=λb o e=>ae _ (k1' b o e);have nf:∀{a:Addr} {ρ':List Addr} {s':Shared},s.heap.get? a=none->a∉dA ρ σ:=λ{a} I I e m=>by
  obtain⟨o,q⟩:=R.there m;rw[e] at q;cases q
 have r0:c.Rs ρ σ s ρ σ {s with heap:=h1.push {cls:=.type "tuple_iterator",data:=.fields #[.ref s.heap.objs.size,.int 0 0]}}:=eR.more0 R k2' rfl rfl;refine codeAny_forLoop_any (λm s'=>∃j ρ',m=2 - j/\j<=2/\c.Rs ρ σ s ρ' σ s'/\s'.heap.IsTupleIter h1.objs.size s.heap.objs.size j/\s'.heap.IsTuple s.heap.objs.size [Value.bool true,.bool false].toArray/\h1.objs.size∉dA ρ' σ/\s.heap.objs.size∉dA ρ' σ) (λm s' hI=>?_) 2
  ⟨0,ρ,rfl,by decide,r0,⟨_,aB _ rfl,rfl,rfl⟩,⟨_,ae _ et,rfl,0,rfl⟩,nf (ρ':=ρ) (s':=s) fi,nf (ρ':=ρ) (s':=s) ft⟩
 obtain⟨j,ρ1,em,hj,r1,it1,t1,n1,n2⟩:=hI;rw[em];have ne:s.heap.objs.size≠h1.objs.size:=λz=>by rw[z] at et;exact absurd (ay et) (bD _)
 obtain⟨oI,hoI,hcI,hdI⟩:=id it1;have hnI:oI.cls≠ .type "tuple":=by rw[hcI];exact λq=>absurd (cq q) ()
 by_cases hj2:j=2
 .refine wpAny_pyNext_tuple_end hh it1 t1 (by rw[hj2];rfl) λh' xb=>?_
  refine aM (fin ρ1 _ (r1.off R hoI hnI n1 (.inl fi) (λb o hb e=>xb b o hb e) rfl rfl))
 .obtain⟨bb,hbb⟩:=FN j hj hj2
  refine wpAny_pyNext_tuple_item it1 t1 hbb λh' it2 sb=>?_;have kp:∀b o,b≠h1.objs.size->s'.heap.get? b=some o->h'.get? b=some o:=λb o hb e=>by rw[sb.2 b hb];exact e
  have r2:c.Rs ρ σ s ρ1 σ {s' with heap:=h'}:=r1.off R hoI hnI n1 (.inl fi) kp rfl rfl;refine bV (a:=Unit.unit) rfl ?_;refine bN (aK (turn bb ρ1 {s' with heap:=h'} _ r2) (λI s3 h3=>aK h3 (λfl s4 h4=>?_) λI I z=>z) λI I z=>z);obtain⟨rfl,ρ4,τ4,g,r4,T⟩:=h4;obtain⟨ρ5,σ5,e5,r5,_,_,f5,_⟩:=eR.tell (c:=c) r4 T (ao _) r2.rel.len;obtain rfl:=e5.symm;obtain⟨ot,hot,hct,nt,hdt⟩:=t1;have keep:∀a o,h'.get? a=some o->a∉dA ρ1 σ->s4.heap.get? a=some o/\a∉dA ρ5 σ:=λa o e m=>⟨r5.keep a o e m,λm'=>by
   rcases r5.fresh a m' with z | z
   .exact m z
   .rw[show({s' with heap:=h'}:Shared).heap=h' from rfl,e] at z;cases z⟩
  obtain⟨oi,hoi,hci,hdi⟩:=it2;obtain⟨a1,a2⟩:=keep _ _ hoi n1;obtain⟨b1,b2⟩:=keep _ _ (kp _ _ ne hot) n2;exact⟨2 - (j+1),cL (Nat.lt_of_le_of_ne hj hj2) (aX j),j+1,ρ5,rfl,Nat.lt_of_le_of_ne hj hj2,r2.trans r5,⟨oi,a1,hci,hdi⟩,⟨ot,b1,hct,nt,hdt⟩,a2,b2⟩
def m7(an:Bool)(s:Str)(nd:Nd)(lim:Nat)(W:V)(tl:List (Nm×V)):List (Nm×V):=[(cT,.bool an),(cS,.str true s),(cU,d6 0 nd),(dK,.int true (lim:Int)),(kX,W),(iO,.obj 2)]++tl
abbrev lY(m:List (Nm×V))(ah c3:O)(tl:List O):List O:=cY:: .frame m::ah::c3::tl
def qK(x:mQ×List LE×Nat):V:=match x with
 |(.met j e _,_,_)=>.tup [.str true lV,.int true (j:Int),.int true (e:Int),.obj 5]
 |(.nope _,_,_)=>.tup [.str true js]
 |(.raised,_,st)=>.tup [.str true hV,.int true 22,.int true (st:Int)]
theorem Cf(lim:Nat)(x:mQ×List LE×Nat):Eg lim x= .tup [qK x,.obj 4]:=by
 obtain⟨y,lg,st⟩:=x;cases y<;>rfl
def As:MS:=.asgT [dN,eP] (.call (.glb oQ) [.loc dR,.loc cU,.loc cS,.loc cT,.loc dK])
def ua(nm:Nat->Str)(sc:Scope)(n:Nm):Prop:=sc.names.lookup (nm n)=some .local/\(nm n==("__debug__":Str))=false
theorem wO{nm:Nat->Str}{sc:Scope}{a:Nm}{ms:List ME}{es:List Expr}(h:fX nm sc (.loc a::ms) es):∃p r,es= .Name (nm a) p::r/\ua nm sc a/\fX nm sc ms r=true:=by
 obtain⟨x,r,e,d,h⟩:=fK _ _ h;obtain⟨p,rfl,k⟩:=yV d;exact⟨p,r,e,k,h⟩
theorem KN{nm:Nat->Str}{sc:Scope}{a b c d e:Nm}{es:List Expr}(h:fX nm sc [.loc a,.loc b,.loc c,.loc d,.loc e] es=true):∃p1 p2 p3 p4 p5,es=[.Name (nm a) p1,.Name (nm b) p2,.Name (nm c) p3,.Name (nm d) p4,.Name (nm e) p5]/\
  ua nm sc a/\ua nm sc b/\ua nm sc c/\ua nm sc d/\ua nm sc e:=by
 obtain⟨p1,r1,e1,k1,h⟩:=wO h;obtain⟨p2,r2,e2,k2,h⟩:=wO h;obtain⟨p3,r3,e3,k3,h⟩:=wO h;obtain⟨p4,r4,e4,k4,h⟩:=wO h;obtain⟨p5,r5,e5,k5,h⟩:=wO h;have e6:=jl _ _ h;exact⟨p1,p2,p3,p4,p5,by rw[e1,e2,e3,e4,e5,e6],k1,k2,k3,k4,k5⟩
nonrec theorem yT{b:Bs}{env:Env}{A:Around}{E:Value->Shared->Prop}{s:Shared}{ρ:List Addr}{l:List Env}{Q:Flow->Shared->Prop}(G:dI b)(XFc:XF (C b))(SF:oY (C b))(HF:mu (C b)){mk an:Bool}{sb:Str}{p q':Nd}{lim:Nat}{W:V}{lg:List LE}{c3:O}{mr:mQ×List LE×Nat}{x:Stmt}(rm:ee A 210)(en:dE env 1 ρ)(ck:gI nmT env.scope As x)(hs:sb.length<=8)(hlim:lim<990)(hn:fZ (.cat p q')<100)(h:pU mk sb (.cat p q') an lim mr)(hz:∀j e ns l t,mr=(.met j e ns,l,t)->ns.length<=1000)(hF:fx 4 (.frame (m7 an sb (.cat p q') lim W [(dR,.bool mk)])))(h3:fx 4 c3)(R:(C b).R ρ (lY (m7 an sb (.cat p q') lim W [(dR,.bool mk)]) (.list true (lg.map d4)) c3 []) s.heap)(fr:iZ (C b).h₀ l A ρ (lY (m7 an sb (.cat p q') lim W [(dR,.bool mk)]) (.list true (lg.map d4)) c3 []) s.heap)(al:∀L∈l.filterMap (·.frame),L∈dA ρ (lY (m7 an sb (.cat p q') lim W [(dR,.bool mk)]) (.list true (lg.map d4)) c3 []))(q:∀ρ' s',(C b).Rs ρ (lY (m7 an sb (.cat p q') lim W [(dR,.bool mk)]) (.list true (lg.map d4)) c3 []) s ρ' (lY (m7 an sb (.cat p q') lim W [(dR,.bool mk),(dN,qK mr),(eP,.obj 4)]) (.list true (lg.map d4)) c3 (kl mr)) s'->Q .next s'):wpAny (C b).M A (exec x env) Q E s:=by
 obtain⟨ts,k,pt,v',p',rfl,c0,nc,nt,c1⟩:=sr _ _ ck;obtain⟨f',as',pc,rfl,hnf,cf,ca⟩:=mH _ _ c1;obtain⟨pf,rfl,lf,df⟩:=uR _ _ cf;refine cC (bH (g9 (c:=C b) (st:=⟨_,[],[]⟩) G.X (n:=oQ) (v:=.val (.ref 676)) rfl en lf df R λy vy=>?_)) (mX nc _ _ _) (ky nt _);obtain⟨rfl,_⟩:=vy;have ca0:=ca;obtain⟨p1,p2,p3,p4,p5,rfl,⟨l1,e1⟩,⟨l2,e2⟩,⟨l3,e3⟩,⟨l4,e4⟩,l5,e5⟩:=KN ca;refine callWith_of (P:=λh=>(C b).K.In h) (fV (c:=C b) (pos:=pc) ca0) (keeps_K (show keepIn (C b).K (.ref 676)=true from ?_)) (gp ca0 ?_)
 .obtain⟨fd,bd,K,_⟩:=HF
  obtain⟨oc,od,osl,hf⟩:=K.at_;unfold keepIn;dsimp only;rw[hf]
 refine aF (fY G (fi:=1) (v:=.bool mk) rfl rfl en l1 e1 R λy1 v1=>?_);refine aF (fY G (fi:=1) (v:=d6 0 (.cat p q')) rfl rfl en l2 e2 R λy2 v2=>?_);refine aF (fY G (fi:=1) (v:=.str true sb) rfl rfl en l3 e3 R λy3 v3=>?_);refine aF (fY G (fi:=1) (v:=.bool an) rfl rfl en l4 e4 R λy4 v4=>?_);refine aF (fY G (fi:=1) (v:=.int true (lim:Int)) rfl rfl en l5 e5 R λy5 v5=>?_);refine aN ⟨G.X.In (h:=s.heap) R,cR ?_⟩;have h2:fx 4 (.list true (lg.map d4)):=λf I=>.l (.les _);refine GD G XFc SF HF hs hlim hn (y:=mr.1) (lg:=mr.2.1) (st:=mr.2.2) h (λj e ns he=>hz j e ns _ _ (Prod.ext he rfl)) hF h2 h3 A _ s ρ l _ E (rm.less (show 201<=210 by decide)) R fr al (.cons v1 (.cons v2 (.cons v3 (.cons v4 (.cons v5 .nil))))) λρ6 s6 y6 r6 v6=>?_;rw[Cf] at v6;obtain⟨t,z',rfl,itt,vr⟩:=v6;obtain⟨q1,q2,q3⟩:=jG (c:=C b) c0;show wpAny (C b).M A (assign (.Tuple ts k pt) env (.ref t)) _ E s6;have e6:kh 1 [dN,eP] [qK mr,.obj 4] ⟨lY (m7 an sb (.cat p q') lim W [(dR,.bool mk)]) (.list true (lg.map d4)) c3 (kl mr),[],[]⟩=some ⟨lY (m7 an sb (.cat p q') lim W [(dR,.bool mk),(dN,qK mr),(eP,.obj 4)]) (.list true (lg.map d4)) c3 (kl mr),[],[]⟩:=rfl;refine wpAny_assign_Tuple rm.handled itt (by rw[q3,aI,vr.length];rfl) q2 λh' xb=>?_;have kp:∀b o,s6.heap.get? b=some o->h'.get? b=some o:=λb o e=>xb b o (bG (ay e)) e;have r7:=eR.more0 (s':={s6 with heap:=h'}) r6.rel kp rfl rfl;exact(jb (c:=C b) G.X e6).2 A env _ ρ6 _ _ _ E (en.grow r6.grow) q1 r7.rel (vr.up (.refl _) (.of_keeps kp)) λs8 r8=>q ρ6 s8 ((r6.trans r7).trans r8)
def lu(y:ii)(z:O):O:=match y with
 | .round rs=>.list true (rs.map d4)
 | .met _ _ ns=>.list true (ns.map nJ)
 | .none _=>z
theorem Jw{f:Nat->Option Nat}(h:f 3=some 3)(y:ii):RV f (gy 2 y) (gy 2 y):=by
 cases y with
 |none w=>exact .t (.k .s .z)
 |round rs=>exact .t (.k .s (.k (.o h) .z))
 |met j e ns=>exact .t (.k .s (.k .i (.k .i (.k (.o h) .z))))
section
variable{y:ii} {an:Bool} {nd:Nd} {lim:Nat} {b:Bs}
theorem AQ{z:O}(h:fx 4 z):fx 4 (lu y z):=by
 cases y with
 |none w=>exact h
 |round rs=>exact λf I=>.l (.les _)
 |met j e ns=>exact λf I=>.l (.nms _)
theorem Di{f:Nat->Option Nat}{s:Str}{tl tl':List (Nm×V)}(h:∀i,i<4->f i=some i)(k:FrR f (m7 an s nd lim (gy 2 y) tl) tl'):FrR f (m7 an s nd lim (gy 2 y) tl) (m7 an s nd lim (gy 2 y) tl'):=
 .k rfl .b (.k rfl .s (.k rfl (.nd (h 0 ()) nd) (.k rfl .i (.k rfl (Jw (h 3 ()) y) (.k rfl (.o (h 2 ())) k)))))
theorem Da{s:Str}{bb:Bool}:fx 4 (.frame (m7 an s nd lim (gy 2 y) [(dR,.bool bb)])):=λf h=>.f (Di h (.k rfl .b .z))
theorem qn{sb:Str}{lg:List LE}{z:O}(hz:fx 4 z)(tl:List (Nm×V))(os:List O):
  dg (C b) 4 (fb [0,1,2,3]) (lY (m7 an sb nd lim (gy 2 y) tl) (.list true (lg.map d4)) (lu y z) os) (·=lY (m7 an sb nd lim (gy 2 y) []) (.list true (lg.map d4)) (lu y z) []):=by
 have h4:∀i,i<4->fb [0,1,2,3] i=some i:=by decide
 exact dg.sel (I':=[cY,.frame (m7 an sb nd lim (gy 2 y) tl),.list true (lg.map d4),lu y z]) rfl () (fj rfl) (.k .ref (.k (.f (Di h4 .z)) (.k (.l (.les _)) (.k (AQ hz _ h4) .z))))
theorem ro{A:Around}{E:Value->Shared->Prop}{s:Shared}{x z:Value}{d:PyData}{as bs:List Addr}{Q:Bool->Shared->Prop}(rm:ee A 10)(ra:Reads s.heap x d as)(rb:Reads s.heap z d bs)(hl:d.canLay0)(hd:d.depth<=64)(q:Q false s):wpAny (C b).M A (compareOp .NotEq x z) (λc s'=>wpAny (C b).M A (truthy c) Q E s') E s:=by
 have sh:SeqAt.shaped d:=by unfold SeqAt.shaped;rw[hl,decide_eq_true hd];rfl
 refine ne_dataH ra rb sh sh (by have:=rm.units;omega) ?_;rw[show PyData.eqv d d=true from PySem.SeqAt.eqv_refl d hl];exact cz q
theorem pj{ρ:List Addr}{σ:List O}{h:Heap}{i:Nat}{y:Bool}{vs:List V}{a:Addr}(R:(C b).R ρ σ h)(ha:nth ρ i=some a)(ho:nth σ i=some (.list y vs))(hf:pZ vs):Reads h (.ref a) (.list (CB vs)) [a]:=by
 obtain⟨z',n,ho,vr⟩:=R.at ha ho;exact reads_list_at ho rfl rfl (by simpa using rH hf vr)
theorem AD{l:List LE}(h:∀x∈l,CF x):(PyData.list (CB (l.map d4))).canLay0=true/\(PyData.list (CB (l.map d4))).depth<=64:=by
 rw[vl];refine⟨by rw[PyData.canLay0];exact uI _ l λx m=>I4 (h x m),?_⟩;have:=qA (k:=1) (λx=>dV (d4 x)) l λx I=>E9 x;rw[PyData.depth];omega
theorem Fq{l:List Str}(h:∀x∈l,q9 x):PyData.canLayAll0 (CB (l.map nJ))=true/\PyData.depthAll (CB (l.map nJ))<=1:=by
 rw[vl];exact⟨uI _ l λx m=>Jr (h x m),qA (k:=1) (λx=>dV (nJ x)) l λx I=>C0 x⟩
theorem zV{s:Str}{l:List Nat}(e:s=⟨l.toArray⟩)(h:∀c∈l,c<0x110000):PyData.strOk s:=e▸Dl h
theorem zc{ρ:List Addr}{s:Shared}{sb:Str}{lg:List LE}{z:O}{mk:V}{tl:List (Nm×V)}{mr:mQ×List LE×Nat}{x w:Value}(hy:nE lim y lg (some mr))(hr:∀rs,y≠ .round rs)(ho:LD y)
  (R:(C b).R ρ (lY (m7 an sb nd lim (gy 2 y) tl) (.list true (lg.map d4)) (lu y z) (kl mr)) s.heap) (vx:dH ρ s.heap (qK mr) x) (vw:dH ρ s.heap (gy 2 y) w):∃d as bs,Reads s.heap x d as/\Reads s.heap w d bs/\d.canLay0=true/\d.depth<=64:=by
 cases y with
 |round rs=>exact absurd rfl (hr rs)
 |none k=>
  obtain⟨k',C',e⟩:=hy;cases e;exact⟨_,_,_,pN (v:=.tup [.str true js]) rfl vx,pN (v:=.tup [.str true js]) rfl vw,by decide+kernel,by decide+kernel⟩
 |met j e ns=>
  obtain⟨C',e'⟩:=hy;cases e';have rd:∀{i:Nat} {l:List V} {u:Value},l=ns.map nJ->nth (lY (m7 an sb nd lim (gy 2 (.met j e ns)) tl) (.list true (lg.map d4)) (lu (.met j e ns) z) (kl (.met j e ns,lg,C'))) i=some (.list true l)->dH ρ s.heap (.tup [.str true lV,.int true (j:Int),.int true (e:Int),.obj i]) u->
    ∃as,Reads s.heap u (.tuple [.str lV,.int j,.int e,.list (CB (ns.map nJ))]) as:=λ{i l u} hl hi vu=>by
   obtain⟨t,z',rfl,⟨o,ho,hc,n,hd⟩,x1,xs,rfl,⟨t1,rfl⟩,x2,xs,rfl,⟨t2,rfl⟩,x3,xs,rfl,⟨t3,rfl⟩,x4,xs,rfl,⟨a,ha,rfl⟩,rfl⟩:=vu;rw[<-dP] at ha;subst hl;have rl:=pj R ha hi (iX _ Gl ns);exact⟨_,reads_tuple_at ho hc hd (.cons (.str _ _) (.cons (.int _ _) (.cons (.int _ _) (.cons rl .nil))))⟩
  obtain⟨as,r1⟩:=rd (i:=5) (l:=ns.map xQ) rfl rfl vx;obtain⟨bs,r2⟩:=rd (i:=3) (l:=ns.map nJ) rfl rfl vw;obtain⟨l1,l2⟩:=Fq ho;refine⟨_,as,bs,r1,r2,a9.mpr ⟨zV (s:=lV) rfl (),a9.mpr ⟨rfl,a9.mpr ⟨rfl,a9.mpr ⟨l1,rfl⟩⟩⟩⟩,?_⟩;simp only[PyData.depth,PyData.depthAll];omega
def Lp:ME:=.cmp .NotEq (.item (.loc kX) (.cst (.int 0))) (.cst (.str jZ))
abbrev Je:Sk Stmt:=.if_ (.bor (.l [.cmp (.loc dN) .NotEq (.loc kX),.cmp (.loc eP) .NotEq (.loc iO)])) .any .nil
end
nonrec theorem EP{b:Bs}{env:Env}{A:Around}{E:Value->Shared->Prop}{an:Bool}{sb:Str}{nd:Nd}{lim:Nat}{lg:List LE}{z:O}{mk:Bool}{x:Stmt}{s:Shared}{ρ:List Addr}{Q:Flow->Shared->Prop}(G:dI b){y:ii}{mr:mQ×List LE×Nat}(rm:ee A 20)(en:dE env 1 ρ)(ck:fE env.scope Je x)(hy:nE lim y lg (some mr))(hr:∀rs,y≠ .round rs)(ho:LD y)(hl:∀x∈lg,CF x)(R:(C b).R ρ (lY (m7 an sb nd lim (gy 2 y) [(dR,.bool mk),(dN,qK mr),(eP,.obj 4)]) (.list true (lg.map d4)) (lu y z) (kl mr)) s.heap)(q:Q .next s):wpAny (C b).M A (exec (bE Je x) env) Q E s:=by
 obtain⟨⟨⟨⟨lt,et⟩,⟨ld,ed⟩⟩,⟨⟨ll,el⟩,⟨la,ea⟩⟩,_⟩,_⟩:=ck;have hlog:mr.2.1=lg:=by
  cases y with
  |round rs=>exact absurd rfl (hr rs)
  |none k=>obtain⟨_,_,e⟩:=hy;cases e;rfl
  |met j e ns=>obtain⟨_,e⟩:=hy;cases e;rfl
 have h4:nth (lY (m7 an sb nd lim (gy 2 y) [(dR,.bool mk),(dN,qK mr),(eP,.obj 4)]) (.list true (lg.map d4)) (lu y z) (kl mr)) 4=some (.list true (lg.map d4)):=by
  obtain⟨m0,lg0,st0⟩:=mr;have hlog:lg0=lg:=hlog;subst hlog;cases m0<;>rfl
 refine wpAny_If (wpAny_isTrue_BoolOp (bY (bZ (fY G (fi:=1) (v:=qK mr) rfl rfl en lt et R λy1 v1=>fY G (fi:=1) (v:=gy 2 y) rfl rfl en ld ed R λy2 v2=>?_) rfl)));obtain⟨dd,as,bs,r1,r2,k1,k2⟩:=zc (mk:=.bool mk) hy hr ho R v1 v2;refine ro (rm.less ()) r1 r2 k1 k2 ?_;rw[if_neg ()];refine bY (bZ (fY G (fi:=1) (v:=.obj 4) rfl rfl en ll el R λy1 v1=>fY G (fi:=1) (v:=.obj 2) rfl rfl en la ea R λy2 v2=>?_) rfl);obtain⟨a4,ha4,rfl⟩:=v1;obtain⟨a2,ha2,rfl⟩:=v2;rw[<-dP] at ha4 ha2;obtain⟨k1,k2⟩:=AD hl;refine ro (rm.less ()) (pj R ha4 h4 (iX _ rh lg)) (pj R ha2 rfl (iX _ rh lg)) k1 k2 ?_;rw[if_neg ()];refine wpAny_allTrue_Or_nil ?_;rw[if_neg ()];exact aM q
def Kt:ME:=.tup [.cst (.str hV),.cst (.int 22),.bin .Add (.loc dK) (.cst (.int 1))]
def JC:ME:=.call (.glb fW) [.loc eP]
def Ij:ME:=.call (.glb fW) [.item (.loc kX) (.cst (.int 1))]
abbrev lI(an:Bool)(s:Str)(nd:Nd)(lim:Nat)(rs:List LE)(mk:Bool)(st:Nat)(we:List (Nm×V)):List (Nm×V):=m7 an s nd lim (gy 2 (.round rs)) ([(dR,.bool mk),(dN,.tup [.str true hV,.int true 22,.int true (st:Int)]),(eP,.obj 4)]++we)
section
variable(sp:jC) (sl:jz) (r:Nat)
section
variable(an:Bool) (s:Str) (nd:Nd) (lim:Nat) (rs:List LE) (mk:Bool) (st:Nat) (we:List (Nm×V)) (ah c3:O) (lg l:List V) (os:List O)
theorem Jp:Option.map qD ((ev (Pg (fe []) sp sl r) 20).e Kt 1 ⟨cY:: .frame (lI an s nd lim rs mk st we)::ah::c3::os,[],[]⟩)=
  some (.tup [.str false hV,.int false 22,.int true ((lim:Int)+1)],cY:: .frame (lI an s nd lim rs mk st we)::ah::c3::os,[]):=by walk_at"k"
theorem D8:Option.map qD ((ev (Pg (fe []) sp sl r) 20).e JC 1 ⟨cY:: .frame (lI an s nd lim rs mk st we)::ah::c3:: .list true lg::os,[],[]⟩)=
  some (.int true (lg.length:Int),cY:: .frame (lI an s nd lim rs mk st we)::ah::c3:: .list true lg::os,[lg.length<2^20]):=by walk_at"k"
theorem FF:Option.map qD ((ev (Pg (fe []) sp sl r) 20).e Ij 1 ⟨cY:: .frame (lI an s nd lim rs mk st we)::ah:: .list true l::os,[],[]⟩)=
  some (.int true (l.length:Int),cY:: .frame (lI an s nd lim rs mk st we)::ah:: .list true l::os,[l.length<2^20]):=by walk_at"k"
end
end
theorem zi{b:Bs}{A:Around}{E:Value->Shared->Prop}{l:Addr}{z':List Value}{k:Nat}{x:Nat}{u:Tok}{s:Shared}{Q:Value->Shared->Prop}(ho:s.heap.get? l=some (fw z' k))(hx:x<2^20)(hsz:z'.length*x<=2^20)
  (h:Q (.ref s.heap.objs.size) {s with heap:=s.heap.push {cls:=.type "list",data:=.seq (List.replicate x z').flatten.toArray}}):wpAny (C b).M A (binaryOp .Mult (.ref l) (.int (x:Int) u)) Q E s:=by
 have hx':((x:Nat):Int).toNat=x:=Int.toNat_natCast x;have x0:(0:Int)<=(x:Int):=Int.natCast_nonneg x;have x1:(x:Int)<2^20:=by omega
 generalize (x:Int)=xi at hx' x0 x1;have hsz':z'.toArray.size*xi.toNat<=2^24:=by rw[hx',aI];exact ax hsz ()
 refine wpAny_binaryOp_repeat_ref (T:="list") (U:="int") () ⟨_,ho,rfl⟩ (λs'=>typeIs_int s' xi u) noFill_list_mul F.fills_int_mul F.slot_int_rmul repeat_list F.slot_int_index.lookup
  (call_meets F.slot_int_rmul (typeIs_int s xi u) F.entry_int_rmul (F.args_int_rmul_2 _ _) (lm_int_rmul_list_any xi u l z'.toArray k none #[])
   ⟨ho,rfl,⟨_,ho,rfl⟩,call_meets F.slot_list_mul ⟨_,ho,rfl⟩ F.entry_list_mul (F.args_list_mul_2 _ _)
    (lm_list_mul_any l z'.toArray k none #[] xi u (by simp [Builtin.List.listFitsIndex];omega) (by omega) (by simp [Builtin.List.listTooLong,sizeLine];omega))
    ⟨ho,?_⟩⟩)
 rw[hx',listMul_foldl_if];exact h
abbrev JR:Sk Stmt:=.asg (.tgt ec) (.bin (.loc iO) .Add (.bin (.sub (.loc kX) (.cst (.int 1))) .Mult (.loc dK)))
theorem k8(rs:List LE):∀n,(List.replicate n (rs.map d4)).flatten=((List.replicate n rs).flatten).map d4
 |0=>rfl
 |n+1=>by rw[bz,bP,k8 rs n,bz,bP,bn]
theorem dy.rep{ρ:List Addr}{h:Heap}{vs:List V}{z':List Value}(v:dy ρ h vs z'):∀n,dy ρ h (List.replicate n vs).flatten (List.replicate n z').flatten
 |0=>.nil
 |n+1=>by rw[bz,bP,bz,bP];exact v.app (dy.rep v n)
theorem ou{α:Type}(l:List α):∀n,(List.replicate n l).flatten.length=n*l.length
 |0=>by simp
 |n+1=>by rw[bz,bP,ai,ou l n,Nat.succ_mul];omega
nonrec theorem Hl{b:Bs}{env:Env}{A:Around}{E:Value->Shared->Prop}{an:Bool}{sb:Str}{nd:Nd}{lim:Nat}{rs lg N3:List LE}{mk:Bool}{st:Nat}{x:Stmt}{s:Shared}{ρ:List Addr}{Q:Flow->Shared->Prop}(G:dI b)(rm:ee A 20)(en:dE env 1 ρ)(ck:fE env.scope JR x)(hlim:lim<990)(h1:rs.length<=1000)(h2:lg.length<=1000)(R:(C b).R ρ (lY (lI an sb nd lim rs mk st []) (.list true (lg.map d4)) (.list true (rs.map d4)) [dz N3]) s.heap)(q:∀ρ' s',(C b).Rs ρ (lY (lI an sb nd lim rs mk st []) (.list true (lg.map d4)) (.list true (rs.map d4)) [dz N3]) s ρ' (lY (lI an sb nd lim rs mk st [(ec,.obj 6)]) (.list true (lg.map d4)) (.list true (rs.map d4)) [dz N3,.list true (((List.replicate lim rs).flatten).map d4),.list true ((lg++(List.replicate lim rs).flatten).map d4)]) s'->Q .next s'):wpAny (C b).M A (exec (bE JR x) env) Q E s:=by
 obtain⟨lw,⟨la,ea⟩,⟨⟨ld,ed⟩,_⟩,ll,el⟩:=ck;refine cA (cQ (fY G (fi:=1) (v:=.obj 2) rfl rfl en la ea R λy1 v1=>cQ (Subscript_ (fY G (fi:=1) (v:=.tup [.str true jZ,.obj 3]) rfl rfl en ld ed R λy2 v2=>aR ?_)))) (gA rfl _ _ _);have r1:=eR.more0 (s':={s with toks:=s.toks+1}) R (λI I e=>e) rfl rfl;refine(nN (c:=C b) (n:=0) (a:=.tup [.str true jZ,.obj 3]) (b:=.int false 1) (st:=⟨lY (lI an sb nd lim rs mk st []) (.list true (lg.map d4)) (.list true (rs.map d4)) [dz N3],[],[]⟩) (v:=.obj 3) rfl (λP m=>by cases m)).2.2 A {s with toks:=s.toks+1} ρ y2 _ _ _ _ E rfl (rm.less ()) r1.rel (λI I e=>by cases e) v2 ⟨_,rfl⟩ λs2 y3 r2 v3=>?_;have r12:=r1.trans r2;refine fY G (fi:=1) (v:=.int true (lim:Int)) rfl rfl (en.grow r12.grow) ll el r12.rel λy4 v4=>?_;obtain⟨a3,ha3,rfl⟩:=v3;obtain⟨t4,rfl⟩:=v4;rw[<-dP] at ha3;obtain⟨z',n,ho,vr⟩:=r12.rel.at ha3 (show nth (lY (lI an sb nd lim rs mk st []) (.list true (lg.map d4)) (.list true (rs.map d4)) [dz N3]) 3=some (.list true (rs.map d4)) from rfl);have lz:z'.length=rs.length:=by have:=vr.length;rw[af] at this;exact this
 have hb:z'.length*lim<=2^20:=by
  rw[lz];exact ax (Nat.mul_le_mul h1 (aZ hlim)) ()
 refine zi ho (by omega) hb ?_;have kp:∀b o,s2.heap.get? b=some o->(s2.heap.push {cls:=.type "list",data:=.seq (List.replicate lim z').flatten.toArray}).get? b=some o:=λb o e=>ae _ e;obtain⟨r3,v5⟩:=eR.newL (xs:=(List.replicate lim (rs.map d4)).flatten) (z':=(List.replicate lim z').flatten) (h':=s2.heap.push {cls:=.type "list",data:=.seq (List.replicate lim z').flatten.toArray}) (s:=s2) (y:=true) r12.rel kp (aB _ rfl) (vr.rep lim);have r13:=r12.trans r3;have big:=dv;have hfl:((List.replicate lim (rs.map d4)).flatten).length<=1000*990:=by
  rw[ou,af];exact ax (Nat.mul_le_mul (aZ hlim) h1) ()
 refine(mU (c:=C b) (n:=0) (op:=.Add) (a:=.obj 2) (b:=.obj 5) (st:=⟨lY (lI an sb nd lim rs mk st []) (.list true (lg.map d4)) (.list true (rs.map d4)) [dz N3]++[.list true (List.replicate lim (rs.map d4)).flatten],[],[]⟩) (C':=⟨lY (lI an sb nd lim rs mk st []) (.list true (lg.map d4)) (.list true (rs.map d4)) [dz N3]++[.list true (List.replicate lim (rs.map d4)).flatten]++[.list true (lg.map d4++(List.replicate lim (rs.map d4)).flatten)],[],[(lg.map d4).length+(List.replicate lim (rs.map d4)).flatten.length<=sizeLine]⟩) (v:=.obj 6) rfl (λP m=>by
  cases aj.mp m;rw[af];omega)).2 A _ _ _ _ _ E (rm.less ()) r13.rel (r13.v R v1) v5 λρ6 s6 y6 r6 v6=>?_
 rw[k8,<-bn] at r6;obtain⟨_,_,k7⟩:=d8 (c:=C b) G.X (show gQ ⟨lY (lI an sb nd lim rs mk st []) (.list true (lg.map d4)) (.list true (rs.map d4)) [dz N3,.list true (((List.replicate lim rs).flatten).map d4),.list true ((lg++(List.replicate lim rs).flatten).map d4)],[],[]⟩ 1 ec (.obj 6)=some ⟨lY (lI an sb nd lim rs mk st [(ec,.obj 6)]) (.list true (lg.map d4)) (.list true (rs.map d4)) [dz N3,.list true (((List.replicate lim rs).flatten).map d4),.list true ((lg++(List.replicate lim rs).flatten).map d4)],[],[]⟩ from rfl);rw[k8] at r13;have r16:=r13.trans r6;exact k7 A env s6 ρ6 y6 _ E (en.grow r16.grow) lw r16.rel v6 λs7 r7=>q ρ6 s7 (r16.trans r7)
abbrev I8:Sk Stmt:=.if_ (.bor (.l [.cmp (.loc dN) .NotEq (.mb Kt (.tup .any)),.cmp (.loc eP) .NotEq (.sub (.loc ec) (.slc .no (.opt (.m JC)) .no)),.cmp (.m JC) .Lt (.call (.glb HK) (.l [.cst (.int 1),.m Ij]))])) .any .nil
theorem E4{α:Type}{l r:List α}(h:l<+:r):r.take l.length=l:=by
 obtain⟨t,rfl⟩:=h;simp
theorem Hf{α:Type}(l:List α){m n:Nat}(h:m<=n):(List.replicate m l).flatten<+:(List.replicate n l).flatten:=by
 obtain⟨k,rfl⟩:=Nat.exists_eq_add_of_le h;rw[<-List.replicate_append_replicate,List.flatten_append];exact b9 _ _
nonrec theorem JJ{b:Bs}{env:Env}{A:Around}{E:Value->Shared->Prop}{an:Bool}{sb:Str}{nd:Nd}{lim:Nat}{rs lg N3:List LE}{mk:Bool}{m:Nat}{P:List V}{x:Stmt}{s:Shared}{ρ:List Addr}{Q:Flow->Shared->Prop}(G:dI b)(rm:ee A 40)(en:dE env 1 ρ)(ck:fE env.scope I8 x)(hlim:lim<990)(h1:rs.length<=1000)(h2:lg.length<=1000)(hm:m<=lim)(hp1:lg++rs<+:N3)(hp2:N3<+:lg++(List.replicate m rs).flatten)(hr:∀x∈rs,CF x)(hl:∀x∈lg,CF x)(R:(C b).R ρ (lY (lI an sb nd lim rs mk (lim+1) [(ec,.obj 6)]) (.list true (lg.map d4)) (.list true (rs.map d4)) [dz N3,.list true P,.list true ((lg++(List.replicate lim rs).flatten).map d4)]) s.heap)(q:∀ρ' s' z,(C b).Rs ρ (lY (lI an sb nd lim rs mk (lim+1) [(ec,.obj 6)]) (.list true (lg.map d4)) (.list true (rs.map d4)) [dz N3,.list true P,.list true ((lg++(List.replicate lim rs).flatten).map d4)]) s ρ' (lY (lI an sb nd lim rs mk (lim+1) [(ec,.obj 6)]) (.list true (lg.map d4)) (.list true (rs.map d4)) ([dz N3,.list true P,.list true ((lg++(List.replicate lim rs).flatten).map d4)]++[z])) s'->Q .next s'):wpAny (C b).M A (exec (bE I8 x) env) Q E s:=by
 obtain⟨⟨⟨⟨lt,et⟩,ctt,_⟩,⟨⟨ll,el⟩,⟨lw,ew⟩,_,cn,_⟩,⟨cn1,⟨lm,em⟩,_,cn2,_⟩,_⟩,_⟩:=ck;have hpre:N3<+:lg++(List.replicate lim rs).flatten:=by
  refine hp2.trans ?_;exact(List.prefix_append_right_inj lg).mpr (Hf rs hm)
 have hlen:N3.length<=1000+990*1000:=by
  have:=hpre.length_le;rw[ai,ou] at this;have:=Nat.mul_le_mul (aZ hlim) h1;omega
 have okr:∀x∈N3,CF x:=λx mx=>by
  have:=hpre.subset mx;rcases bj.mp this with mx | mx
  .exact hl x mx
  .obtain⟨l',ml,mx⟩:=List.mem_flatten.mp mx
   rw[List.eq_of_mem_replicate ml] at mx;exact hr x mx
 have big:=dv;refine wpAny_If (wpAny_isTrue_BoolOp (bY (bZ (fY G (fi:=1) (v:=.tup [.str true hV,.int true 22,.int true ((lim+1:Nat):Int)]) rfl rfl en lt et R λy1 v1=>?_) rfl)));refine jf G (Jp _ _ 0 an sb nd lim rs mk (lim+1) [(ec,.obj 6)] _ _ _) trivial rfl (rm.less ()) en ctt R λρ1 s1 y2 r1 v2=>?_;have w1:=pN (v:=.tup [.str true hV,.int true 22,.int true ((lim+1:Nat):Int)]) rfl (r1.v R v1);have w2:=pN (v:=.tup [.str false hV,.int false 22,.int true ((lim:Int)+1)]) rfl v2;refine ro (rm.less ()) w1 w2 (by simp [dV,CB,PyData.canLay0,PyData.canLayAll0,zV (s:=hV) rfl ()]) (by simp [dV,CB,PyData.depth,PyData.depthAll]) ?_;rw[if_neg ()];have en1:=en.grow r1.grow;refine bY (bZ (fY G (fi:=1) (v:=.obj 4) rfl rfl en1 ll el r1.rel λy3 v3=>nR (hs:=λI I=>⟨_,rfl⟩) (fY G (fi:=1) (v:=.obj 6) rfl rfl en1 lw ew r1.rel λy4 v4=>?_)) rfl);refine jM (qi ?_);refine jf G (D8 _ _ 0 an sb nd lim rs mk (lim+1) [(ec,.obj 6)] _ _ (N3.map d4) _) ⟨by rw[af];omega,N4⟩ rfl (rm.less ()) en1 cn r1.rel λρ2 s2 y5 r2 v5=>jM ?_;obtain⟨a6,ha6,rfl⟩:=r2.v r1.rel v4;obtain⟨t5,rfl⟩:=v5;rw[<-dP] at ha6;obtain⟨z',n0,ho,vr⟩:=r2.rel.at ha6 (show nth (lY (lI an sb nd lim rs mk (lim+1) [(ec,.obj 6)]) (.list true (lg.map d4)) (.list true (rs.map d4)) [dz N3,.list true P,.list true ((lg++(List.replicate lim rs).flatten).map d4)]) 6=some (.list true ((lg++(List.replicate lim rs).flatten).map d4)) from rfl);have lz:z'.length<=2^20:=by
  have:=vr.length;rw[af,ai,ou] at this;have:=Nat.mul_le_mul (aZ hlim) h1;omega
 refine⟨a6,z',none,some ((N3.map d4).length:Int),none,rfl,⟨_,ho,rfl,n0,rfl⟩,lz,.none,.int _ _,.none,by simp,λh' kp e=>?_⟩;have ep:slicePick z'.toArray none (some ((N3.map d4).length:Int)) none=(z'.take N3.length).toArray:=by rw[af];exact slicePick_upto' z'.toArray N3.length
 rw[ep] at e;have ev:(((lg++(List.replicate lim rs).flatten).map d4).take N3.length)=N3.map d4:=by rw[<-List.map_take,E4 hpre]
 have vs:=vr.take N3.length;rw[ev] at vs;generalize hD:s2.heap.objs.size+1=D at e;have fD:s2.heap.get? D=none:=by
  cases q:s2.heap.get? D with
  |none=>rfl
  |some o=>have:=ay q;rw[<-hD] at this;exact absurd this (cF.mpr (au _))
 have r3:(C b).Rs ρ2 _ s2 (ρ2++[D]) (_++[.list true (N3.map d4)]) {s2 with heap:=h'}:=
  eR.pushC (o:=.list true (N3.map d4)) r2.rel kp (λx m=>by cases aj.mp m;exact fD) ⟨z'.take N3.length,0,e,vs.up (.app _ _) (.of_keeps kp)⟩ rfl rfl (by
   have:=ay e;rw[<-hD] at this;exact aZ (bw (au _) this))
 have r13:=r1.trans (r2.trans r3);have eN:nth (ρ2++[D]) 7=some D:=by have:=gr ρ2 D;rw[r2.rel.len] at this;exact this
 obtain⟨a4,ha4,rfl⟩:=(r2.trans r3).v r1.rel v3;rw[<-dP] at ha4;obtain⟨k1,k2⟩:=AD okr;refine ro (rm.less ()) (pj r3.rel ha4 rfl (iX _ rh N3)) (pj r3.rel eN rfl (iX _ rh N3)) k1 k2 ?_;rw[if_neg ()];have en3:=en.grow r13.grow;refine bY (bZ (jf G (D8 _ _ 0 an sb nd lim rs mk (lim+1) [(ec,.obj 6)] (O.list true (lg.map d4)) (O.list true (rs.map d4)) (N3.map d4) (O.list true P::O.list true (List.map d4 (lg++(List.replicate lim rs).flatten))::[O.list true (List.map d4 N3)])) ⟨by rw[af];omega,N4⟩ rfl (rm.less ()) en3 cn1 r3.rel λρ4 s4 y6 r4 v6=>?_) rfl);have r14:=r13.trans r4;refine bH (g9 (c:=C b) (st:=⟨_,[],[]⟩) G.X (n:=HK) (v:=.bi 7) rfl (en.grow r14.grow) lm em r4.rel λy7 v7=>?_);cases v7;have e2:starEach [(Expr.Constant (.int 1) (de (ic (kL (ic (kL (ic (kL (sT x)).tail.tail)))))).n (kQ (ic (kL (ic (kL (ic (kL (sT x)).tail.tail))))))),(ic (kL (ic (kL (ic (kL (sT x)).tail.tail)))).tail)] env=(false,eval (Expr.Constant (.int 1) (de (ic (kL (ic (kL (ic (kL (sT x)).tail.tail)))))).n (kQ (ic (kL (ic (kL (ic (kL (sT x)).tail.tail))))))) env)::starEach [(ic (kL (ic (kL (ic (kL (sT x)).tail.tail)))).tail)] env:=ez rfl;have e3:starEach [(ic (kL (ic (kL (ic (kL (sT x)).tail.tail)))).tail)] env=(false,eval (ic (kL (ic (kL (ic (kL (sT x)).tail.tail)))).tail) env)::starEach [] env:=ez (gP _ _ _ _ cn2);refine callWith_builtin (by show _=_;first | (rw[e2,e3];rfl) | (erw[e2,e3];rfl)) ?_;have ea:∀{f:Value} {Q:Args->Shared->Prop} {s:Shared},wpAny (C b).M A (spliced (backTo (kQ (ic (kL (ic (kL (sT x)).tail.tail)))) (starEach [(Expr.Constant (.int 1) (de (ic (kL (ic (kL (ic (kL (sT x)).tail.tail)))))).n (kQ (ic (kL (ic (kL (ic (kL (sT x)).tail.tail))))))),(ic (kL (ic (kL (ic (kL (sT x)).tail.tail)))).tail)] env))) (λvs s'=>Q ⟨vs,[]⟩ s') E s->wpAny (C b).M A (evalArgs f true (backTo (kQ (ic (kL (ic (kL (sT x)).tail.tail)))) (starEach [(Expr.Constant (.int 1) (de (ic (kL (ic (kL (ic (kL (sT x)).tail.tail)))))).n (kQ (ic (kL (ic (kL (ic (kL (sT x)).tail.tail))))))),(ic (kL (ic (kL (ic (kL (sT x)).tail.tail)))).tail)] env)) []) Q E s:=λq=>by
  rw[e2] at q ⊢;exact cu q
 refine ea (aF (aR (aF ?_ e3)) e2);have r5s:=eR.more0 (s':={s4 with toks:=s4.toks+1}) r4.rel (λI I e=>e) rfl rfl;have r5:=r4.trans r5s;refine jf G (FF _ _ 0 an sb nd lim rs mk (lim+1) [(ec,.obj 6)] (O.list true (lg.map d4)) (rs.map d4) (dz N3::O.list true P::O.list true (List.map d4 (lg++(List.replicate lim rs).flatten))::[O.list true (List.map d4 N3)])) ⟨by rw[af];omega,N4⟩ rfl (rm.less ()) (en.grow r14.grow) cn2 r5.rel λρ6 s6 y8 r6 v8=>aN ?_;obtain⟨t8,rfl⟩:=v8;refine min_two_ints rm.handled λh7 tk7 kp7=>?_;have r7:=r6.trans (eR.more0 (s':={s6 with heap:=h7,toks:=tk7}) r6.rel kp7 rfl rfl);have hge:∀z:Int,z=(if((rs.map d4).length:Int)<1 then((rs.map d4).length:Int) else 1)->¬((N3.map d4).length:Int)<z:=λz hz=>by
  rw[af] at hz ⊢;have:rs.length<=N3.length:=by
   have:=hp1.length_le;rw[ai] at this;omega
  split at hz<;>omega
 obtain⟨z,u,hz,e⟩:∃(z:Int) (u:Tok),z=(if((rs.map d4).length:Int)<1 then((rs.map d4).length:Int) else 1)/\(if((rs.map d4).length:Int)<1 then Value.int ((rs.map d4).length:Int) t8 else Value.int 1 s4.toks)=Value.int z u:=by
  split
  .exact⟨_,_,rfl,rfl⟩
  .exact⟨_,_,rfl,rfl⟩
 rw[e];refine(uD (c:=C b) (n:=0) (op:=.Lt) (a:=.int true ((N3.map d4).length:Int)) (b:=.int true z) (st:=⟨_,[.b false],[]⟩) (C':=⟨_,[],[decide (((N3.map d4).length:Int)<z)=false]⟩) (r:=false) rfl (λP m=>by cases aj.mp m;exact ag (hge z hz))).2.2 A _ ρ6 y6 _ _ E (rm.less ()) r7.rel (λI I e=>by cases e) ((r5s.trans r7).v r4.rel v6) ⟨u,rfl⟩ (cz ?_);rw[if_neg ()];refine wpAny_allTrue_Or_nil ?_;rw[if_neg ()];exact aM (q ρ6 _ _ (r13.trans (r5.trans r7)))
section
variable(sp:jC) (sl:jz) (r:Nat)
theorem yP(an:Bool)(s w:Str)(nd:Nd)(lim:Nat)(Ws:List V)(tl:List (Nm×V))(ah c3:O)(os:List O)(bb:Bool):Option.map GP ((ev (Pg (fe []) sp sl r) 20).t Lp 1 ⟨cY:: .frame (m7 an s nd lim (.tup (.str true w::Ws)) tl)::ah::c3::os,[.b bb],[]⟩)=
  some (bb,cY:: .frame (m7 an s nd lim (.tup (.str true w::Ws)) tl)::ah::c3::os,[decide (w≠jZ)=bb]):=by walk_at"k"
end
abbrev zJ:Sk (List Stmt):=.l [.x As,.if_ (.m Lp) (.l [Je]) (.l [JR,I8])]
def K2(y:ii):Prop:=match y with
 | .none _=>True
 | .round rs=>rs.length<=1000
 | .met _ _ ns=>ns.length<=1000
nonrec theorem Cs{b:Bs}{env:Env}{A:Around}{E:Value->Shared->Prop}{sb:Str}{lim:Nat}{lg:List LE}{z:O}{l:List Stmt}{s:Shared}{ρ:List Addr}{fs:List Env}{Q:Flow->Shared->Prop}(G:dI b)(XFc:XF (C b))(SF:oY (C b))(HF:mu (C b)){mk an:Bool}{nd:Nd}{y:ii}{mr:mQ×List LE×Nat}(rm:ee A 210)(en:dE env 1 ρ)(ck:fE env.scope zJ l)(hs:sb.length<=8)(hlim:lim<980)(hcat:∃p q,nd= .cat p q)(hn:fZ nd<100)(h:pU mk sb nd an lim mr)(hy:nE lim y lg (some mr))(hL:K2 y)(hlg:lg.length<=1000)(ho:LD y)(hl:∀x∈lg,CF x)(hz:fx 4 z)(R:(C b).R ρ (lY (m7 an sb nd lim (gy 2 y) [(dR,.bool mk)]) (.list true (lg.map d4)) (lu y z) []) s.heap)(fr:iZ (C b).h₀ fs A ρ (lY (m7 an sb nd lim (gy 2 y) [(dR,.bool mk)]) (.list true (lg.map d4)) (lu y z) []) s.heap)(al:∀L∈fs.filterMap (·.frame),L∈dA ρ (lY (m7 an sb nd lim (gy 2 y) [(dR,.bool mk)]) (.list true (lg.map d4)) (lu y z) []))(q:∀ρ' s' τ g,(C b).Rs ρ (lY (m7 an sb nd lim (gy 2 y) [(dR,.bool mk)]) (.list true (lg.map d4)) (lu y z) []) s ρ' τ s'->dg (C b) 4 g τ (·=lY (m7 an sb nd lim (gy 2 y) []) (.list true (lg.map d4)) (lu y z) [])->Q .next s'):wpAny (C b).M A (execs (bE zJ l) env) Q E s:=by
 obtain⟨c1,⟨ct,⟨cj1,_⟩,cw,cj2,_⟩,_⟩:=ck;obtain⟨pp,qq,rfl⟩:=hcat;have hmz:∀j e ns l' t',mr=(.met j e ns,l',t')->ns.length<=1000:=λj e ns l' t' hm=>by
  subst hm;cases y with
  |none k=>obtain⟨_,_,e⟩:=hy;cases e
  |round rs=>obtain⟨_,_,e,_⟩:=hy;cases e
  |met j' e' N0=>obtain⟨_,e⟩:=hy;cases e;exact hL
 refine ak (yT G XFc SF HF rm en c1 hs (by omega) hn h hmz Da (AQ hz) R fr al λρ1 s1 r1=>?_);have en1:=en.grow r1.grow;cases y with
 |round rs=>
  obtain⟨N3,m,e,hp1,hp2,hm⟩:=hy;cases e;refine ak (wpAny_If (oB G (yP _ _ 0 an sb jZ (.cat pp qq) lim [.obj 3] _ _ _ _ false) ⟨ag (λz=>z rfl),N4⟩ rfl (rm.less ()) en1 ct r1.rel λρ2 s2 r2=>?_));rw[if_neg ()];have r12:=r1.trans r2;refine ak (Hl G (N3:=N3) (st:=lim+1) (mk:=mk) (rm.less ()) (en.grow r12.grow) cw (by omega) hL hlg r12.rel λρ3 s3 r3=>?_);have r13:=r12.trans r3;refine ak (JJ G (N3:=N3) (mk:=mk) (rm.less ()) (en.grow r13.grow) cj2 (by omega) hL hlg hm hp1 hp2 ho hl r13.rel λρ4 s4 z4 r4=>aM (aM ?_));exact q ρ4 s4 _ _ (r13.trans r4) (qn (y:=.round rs) (z:=z) hz _ _)
 |none k=>
  refine ak (wpAny_If (oB G (yP _ _ 0 an sb js (.cat pp qq) lim [] _ _ _ _ true) ⟨av (),N4⟩ rfl (rm.less ()) en1 ct r1.rel λρ2 s2 r2=>?_));rw[if_pos rfl];have r12:=r1.trans r2;refine ak (EP G (y:=.none k) (mk:=mk) (mr:=mr) (rm.less ()) (en.grow r12.grow) cj1 hy (λI e=>by cases e) ho hl r12.rel (aM (aM ?_)));exact q ρ2 s2 _ _ r12 (qn (y:=.none k) (z:=z) hz _ _)
 |met j e ns=>
  refine ak (wpAny_If (oB G (yP _ _ 0 an sb lV (.cat pp qq) lim [.int true (j:Int),.int true (e:Int),.obj 3] _ _ _ _ true) ⟨av (),N4⟩ rfl (rm.less ()) en1 ct r1.rel λρ2 s2 r2=>?_));rw[if_pos rfl];have r12:=r1.trans r2;refine ak (EP G (y:=.met j e ns) (mk:=mk) (mr:=mr) (rm.less ()) (en.grow r12.grow) cj1 hy (λI e=>by cases e) ho hl r12.rel (aM (aM ?_)));exact q ρ2 s2 _ _ r12 (qn (y:=.met j e ns) (z:=z) hz _ _)
theorem qN(ps:List dZ):(dc ps).length<=3*ps.length:=by
 unfold dc;have h1:=gY (eQ (ps.map Lf.part));have h2:=m6 (ps.map Lf.part);rw[af] at h2;omega
theorem AR(p:dZ):wy p<=5:=by
 cases p with
 |cur=>decide
 |mk m b=>cases m<;>cases b<;>decide
theorem AX:∀ps:List dZ,BZ ps<=5*ps.length
 |[]=>aJ _
 |p::ps=>by
  have h1:=AR p;have h2:=AX ps;show wy p+BZ ps<=5*(ps.length+1);omega
theorem AF:∀ps:List dZ,ow ps<=6*ps.length
 |[]=>aJ _
 |p::ps=>by
  have h1:=AR p;have h2:=AF ps;show(1+wy p)+ow ps<=6*(ps.length+1);omega
theorem wA:∀ps:List dZ,fZ (fh ps)=2*ps.length+1
 |[]=>rfl
 |p::ps=>by
  show 1+fZ (fh ps)+1=2*(ps.length+1)+1;rw[wA ps];omega
theorem wH:∀(bp:List dZ) (n:Nd),fZ (bp.foldl (λn p=>.cat n (.lf (.part p))) n)=fZ n+2*bp.length
 |[],_=>rfl
 |p::bp,n=>by
  rw[List.foldl_cons,wH bp];show fZ n+1+1+2*bp.length=fZ n+2*(bp.length+1);omega
theorem HB(fp bp:List dZ):fZ (fu fp bp)=2*fp.length+1+2*bp.length:=by
 unfold fu;rw[wH,wA]
theorem ur:∀(bp:List dZ) (n:Nd),bp≠[]->∃p q,bp.foldl (λn p=>Nd.cat n (.lf (.part p))) n= .cat p q
 |[],_,h=>absurd rfl h
 |[p],n,_=>⟨_,_,rfl⟩
 |p::r::bp,n,_=>by
  rw[List.foldl_cons];exact ur (r::bp) _ (by intro z;cases z)
theorem Ef(fp:List dZ){bp:List dZ}(h:bp≠[]):∃p q,fu fp bp= .cat p q:=ur bp _ h
theorem Ar(s:Str)(fp bp:List dZ)(hf:fp.length<=10)(hb:bp.length<=10):∀(n j:Nat) (lg:List LE),lg.length+10*n<=500->K2 (l8 s fp bp n j lg).1/\(l8 s fp bp n j lg).2.length<=1000
 |0,_,lg,h=>⟨N4,by show lg.length<=1000;omega⟩
 |n+1,j,lg,h=>by
  have q:=rD s fp j false [] lg;rw[kU];cases c1:d3 s fp j false [] lg with
  |mk y L'=>
   rw[c1] at q;have q1:=q.1;dsimp only at q1;cases y with
   |over=>exact⟨N4,by show L'.length<=1000;omega⟩
   |no=>exact Ar s fp bp hf hb n (j+1) L' (by omega)
   |ok a ns f=>
    dsimp only;have q2:=rD s bp a false [] [];have q3:=(q.2 _ _ _ rfl).2;cases c2:d3 s bp a false [] [] with
    |mk z rs=>
     rw[c2] at q2;have q4:=q2.1;simp only[bI] at q3 q4;cases z with
     |over=>exact⟨N4,by show(L'++rs).length<=1000;rw[ai];omega⟩
     |no=>exact⟨by show rs.length<=1000;omega,by show L'.length<=1000;omega⟩
     |ok e ms g=>
      have q5:=(q2.2 _ _ _ rfl).2;simp only[bI] at q5;exact⟨by show(ns++ms).length<=1000;rw[ai];omega,by show(L'++rs).length<=1000;rw[ai];omega⟩
theorem A9{s:Str}{fp bp:List dZ}{an mk:Bool}{lim:Nat}(hs:s.length<=4)(hf:fp.length<=2)(hb:bp.length<=3)(hl:200<=lim):
  ∃mr,pU mk s (fu fp bp) an lim mr/\nE lim (wm s fp bp an).1 (wm s fp bp an).2 (some mr):=by
 have hn:dJ s an<=5/\dJ s an<=s.length+1:=by
  unfold dJ
  split<;>omega
 have some_of:∀{y lg e},nE lim y lg e->∃mr,e=some mr:=λ{y lg e} h=>by
  cases y with
  |none k=>obtain⟨_,_,rfl⟩:=h;exact⟨_,rfl⟩
  |round rs=>obtain⟨_,_,rfl,_⟩:=h;exact⟨_,rfl⟩
  |met j e ns=>obtain⟨_,rfl⟩:=h;exact⟨_,rfl⟩
 have h1:=qN fp;have h2:=qN bp;have h3:=AX bp;have h4:=AF fp;cases mk with
 |true=>
  have q:=IA (s:=s) (fp:=fp) (bp:=bp) (lim:=lim) (dJ s an) (j:=0) (lg:=[]) (st:=0) (by omega) (by
   have:=Nat.mul_le_mul hn.1 (show(dc fp).length+(dc bp).length+2<=17 by omega);omega)
  obtain⟨mr,e⟩:=some_of q;exact⟨mr,e,by rw[<-e];exact q⟩
 |false=>
  have q:=Jl (s:=s) (fp:=fp) (bp:=bp) (lim:=lim) (by omega) (dJ s an) (j:=0) (lg:=[]) (st:=0) (by omega) (by
   have:=Nat.mul_le_mul hn.1 (show bp.length+ow fp+BZ bp+2<=32 by omega);omega)
  obtain⟨mr,e⟩:=some_of q;exact⟨mr,e,by rw[<-e];exact q⟩
abbrev yg:Sk Stmt:=.for_ (.tgt dR) (.tup (.l [.cst (.bool true),.cst (.bool false)])) zJ
abbrev yh:Sk (List Stmt):=.l [.x EE,Jq,yO,Do,.x ET,yg,.ret (.cst (.bool true))]
abbrev DV:Sk (List Stmt):=.cons D9 (.cons zd (.cons CP (.cons yq (.cons (ri hK 2) (.cons (ri gW 3) yh)))))
theorem Hp{b:Bs}{env:Env}{A:Around}{h:Heap}{ρ:List Addr}{σ:List O}{i:Nat}{m:List (Nm×V)}(hfr:A.frames=some [env])(ef:env.frame=some env.locals)(hk:env.scope.kind= .function)(hl:nth ρ i=some env.locals)(ho:nth σ i=some (.frame m))(R:(C b).R ρ σ h):
  iZ (C b).h₀ [env] A ρ σ h/\∀L∈[env].filterMap (·.frame),L∈dA ρ σ:=by
 obtain⟨m',⟨o',es,ep,ho',hd,_⟩,_⟩:=R.at hl ho;have mm:env.locals∈dA ρ σ:=dC.mpr ⟨i,_,_,hl,ho,.head _⟩;have only:∀L∈[env].filterMap (·.frame),L=env.locals:=λL m=>by
  rw[a8,ef] at m;rcases aD.mp m with e | m
  .exact e
  .cases m
 exact⟨⟨hfr,⟨by rw[hk];decide,⟨_,o',ef,R.new _ mm,ho',λvs z=>by rw[hd] at z;cases z⟩,N4⟩,λL m I=>by rw[only L m];exact⟨i,_,hl,ho⟩⟩,λL m=>by rw[only L m];exact mm⟩
theorem DT{b:Bs}{an:Bool}{sb:Str}{nd:Nd}{lim:Nat}{y:ii}{lg:List LE}{p:List Int×Int}{fp bp:List dZ}:
  ∃g,g 0=some 1/\dg (C b) 0 g (j4 an sb [(cU,d6 3 nd),(dK,.int true (lim:Int)),(kX,gy 6 y),(iO,.obj 6)] p fp bp (.list true (lg.map d4)::xA y)) (·=lY (m7 an sb nd lim (gy 2 y) []) (.list true (lg.map d4)) (lu y (.list true (fp.map (db 0)))) []):=by
 have S:∀{f:Nat->Option Nat},f 3=some 0->f 6=some 2->RV f (gy 6 y) (gy 2 y)->RO f (.frame (tE an sb [(cU,d6 3 nd),(dK,.int true (lim:Int)),(kX,gy 6 y),(iO,.obj 6)])) (.frame (m7 an sb nd lim (gy 2 y) [])):=λh3 h6 hw=>
  .f (.k rfl .b (.k rfl .s (.k rfl (.nd h3 nd) (.k rfl .i (.k rfl hw (.k rfl (.o h6) .z))))))
 cases y with
 |none w=>
  exact⟨fb [3,0,6,4],rfl,dg.sel (I':=[cY,.frame (tE an sb [(cU,d6 3 nd),(dK,.int true (lim:Int)),(kX,gy 6 (.none w)),(iO,.obj 6)]),.list true (lg.map d4),.list true (fp.map (db 3))]) rfl () (λi hi=>absurd hi (cB _))
   (.k .ref (.k (S rfl rfl (.t (.k .s .z))) (.k (.l (.les _)) (.k (.l (.parts (r:=3) (r':=0) rfl _)) .z))))⟩
 |round rs=>
  exact⟨fb [3,0,6,7],rfl,dg.sel (I':=[cY,.frame (tE an sb [(cU,d6 3 nd),(dK,.int true (lim:Int)),(kX,gy 6 (.round rs)),(iO,.obj 6)]),.list true (lg.map d4),.list true (rs.map d4)]) rfl () (λi hi=>absurd hi (cB _))
   (.k .ref (.k (S rfl rfl (.t (.k .s (.k (.o rfl) .z)))) (.k (.l (.les _)) (.k (.l (.les _)) .z))))⟩
 |met j e ns=>
  exact⟨fb [3,0,6,7],rfl,dg.sel (I':=[cY,.frame (tE an sb [(cU,d6 3 nd),(dK,.int true (lim:Int)),(kX,gy 6 (.met j e ns)),(iO,.obj 6)]),.list true (lg.map d4),.list true (ns.map nJ)]) rfl () (λi hi=>absurd hi (cB _))
   (.k .ref (.k (S rfl rfl (.t (.k .s (.k .i (.k .i (.k (.o rfl) .z)))))) (.k (.l (.les _)) (.k (.l (.nms _)) .z))))⟩
nonrec theorem Hm{env:Env}{A:Around}{E:Value->Shared->Prop}{x:Stmt}{s:Shared}{ρ:List Addr}{an:Bool}{sb:Str}{fp bp:List dZ}{lg:List LE}{y:ii}{Q:Flow->Shared->Prop}{{b:Bs}}(G:dI b)(XFc:XF (C b))(SF:oY (C b))(HF:mu (C b)){lim:Nat}(rm:ee A 300)(en:dE env 1 ρ)(ef:env.frame=some env.locals)(hfr:A.frames=some [env])(ck:fE env.scope yg x)(hs:sb.length<=4)(hok:q9 sb)(hf:fp.length<=2)(hb:bp.length<=3)(hb0:bp≠[])(hl:200<=lim)(hl2:lim<300)(hy:wm sb fp bp an=(y,lg))(R:(C b).R ρ (lY (m7 an sb (fu fp bp) lim (gy 2 y) []) (.list true (lg.map d4)) (lu y (.list true (fp.map (db 0)))) []) s.heap)(q:∀ρ' s',(C b).Rs ρ (lY (m7 an sb (fu fp bp) lim (gy 2 y) []) (.list true (lg.map d4)) (lu y (.list true (fp.map (db 0)))) []) s ρ' (lY (m7 an sb (fu fp bp) lim (gy 2 y) []) (.list true (lg.map d4)) (lu y (.list true (fp.map (db 0)))) []) s'->Q .next s'):wpAny (C b).M A (exec (bE yg x) env) Q E s:=by
 obtain⟨lm,_,cb⟩:=ck;have hz:fx 4 (.list true (fp.map (db 0))):=λf h=>.l (.parts (h 0 ()) _);have hn:dJ sb an<=5:=by unfold dJ;split<;>omega
 have oks:=EY sb hok fp bp (dJ sb an) 0 [] (λI m=>by cases m);have lens:=Ar sb fp bp (by omega) (by omega) (dJ sb an) 0 [] (by simp only[bI];omega);have hy0:l8 sb fp bp (dJ sb an) 0 []=(y,lg):=hy;rw[hy0] at oks lens;refine ER (c:=C b) R rm.handled (λbb ρ' s' E' r=>?_) q;obtain⟨_,_,k5⟩:=d8 (c:=C b) G.X (show gQ ⟨lY (m7 an sb (fu fp bp) lim (gy 2 y) []) (.list true (lg.map d4)) (lu y (.list true (fp.map (db 0)))) [],[],[]⟩ 1 dR (.bool bb)=some ⟨lY (m7 an sb (fu fp bp) lim (gy 2 y) [(dR,.bool bb)]) (.list true (lg.map d4)) (lu y (.list true (fp.map (db 0)))) [],[],[]⟩ from rfl);refine k5 A env s' ρ' (.bool bb) _ E' (en.grow r.grow) lm r.rel rfl λs1 r1=>?_;have en1:=en.grow (r.trans r1).grow;obtain⟨fr,al⟩:=Hp (b:=b) (i:=1) hfr ef en.kind en1.loc rfl r1.rel;obtain⟨mr,hm,hme⟩:=A9 (an:=an) (mk:=bb) (s:=sb) (fp:=fp) (bp:=bp) (lim:=lim) hs hf hb hl;rw[hy] at hme;refine Cs G XFc SF HF (mk:=bb) (rm.less ()) en1 cb (by omega) (by omega) (Ef fp hb0) (by rw[HB];omega) hm hme lens.1 lens.2 oks.1 oks.2 hz r1.rel fr al λρ2 s2 τ g r2 T=>⟨rfl,ρ2,τ,g,r1.trans r2,T⟩
nonrec theorem E0{b:Bs}{env:Env}{A:Around}{E:Value->Shared->Prop}{an:Bool}{sb:Str}{p:List Int×Int}{fp:List dZ}{l:List Stmt}{s₀ s:Shared}{ρ:List Addr}{Q:Flow->Shared->Prop}(G:dI b)(XFc:XF (C b))(SF:oY (C b))(HF:mu (C b)){bp:List dZ}(rm:ee A 300)(en:dE env 0 ρ)(ef:env.frame=some env.locals)(hfr:A.frames=some [env])(ck:fE env.scope yh l)(hs:sb.length<=4)(hok:q9 sb)(hf:fp.length<=2)(hb:bp.length<=3)(hb0:bp≠[])(hbox:ik p)(R0:(C b).R [] [] s₀.heap)(r:(C b).Rs [] [] s₀ ρ (j4 an sb [] p fp bp []) s)(cv:gR env ρ (j4 an sb [] p fp bp []) s.heap ey 2)(q:∀ρ' s' σ',(C b).Rs [] [] s₀ ρ' σ' s'->Q (.ret (.bool true)) s'):wpAny (C b).M A (execs (bE yh l) env) Q E s:=by
 obtain⟨c7,c8,c9,c10,c11,c12,_⟩:=ck;refine ak (Dy G (rm.less ()) en c7 r.rel λρ1 s1 r1=>?_);refine ak (Gm G (rm.less ()) (en.grow r1.grow) c8 (by omega) r1.rel λρ2 s2 r2=>?_);have r12:=r1.trans r2;refine ak (Bd G (rm.less ()) (en.grow r12.grow) c9 r12.rel λρ3 s3 r3=>?_);have r13:=r12.trans r3;have t:=jD (lim:=60) () p;refine ak (Ff G (rm.less ()) (en.grow r13.grow) c10 hbox r13.rel (cv.res r13) λρ4 s4 r4=>?_);have r14:=r13.trans r4;have hl:200<=200+(take 60 p).1.toNat:=aA _ _;have hl2:200+(take 60 p).1.toNat<300:=by omega
 generalize 200+(take 60 p).1.toNat=lim at r4 r14 hl hl2;generalize (take 60 p).2=p' at r4 r14;cases hd:wm sb fp bp an with
 |mk y lg=>
  refine ak (DJ G (rm.less ()) (en.grow r14.grow) c11 (by omega) (by omega) (by omega) hd r14.rel λρ5 s5 r5=>?_);have r05:=r.trans (r14.trans r5);obtain⟨g,hg,T⟩:=DT (b:=b) (an:=an) (sb:=sb) (nd:=fu fp bp) (lim:=lim) (y:=y) (lg:=lg) (p:=p') (fp:=fp) (bp:=bp);obtain⟨ρ6,σ6,rfl,r6,g6,_⟩:=eR.tell (c:=C b) r05 T (ao _) rfl;have en6:dE env 1 ρ6:=⟨en.kind,g6 0 1 hg _ ((r14.trans r5).grow _ _ en.loc),en.glob,en.blt⟩
  refine ak (Hm G XFc SF HF rm en6 ef hfr c12 hs hok hf hb hb0 hl hl2 hd r6.rel λρ7 s7 r7=>?_);refine ak (wpAny_Return_some (wpAny_Constant_bool ?_));exact q ρ7 s7 _ (r6.trans r7)
nonrec theorem Fe{b:Bs}{env:Env}{A:Around}{E:Value->Shared->Prop}{bd:List Stmt}{s₀ s:Shared}{ρ:List Addr}{S cb cr:Addr}{xs:List Int}{Q:Flow->Shared->Prop}(G:dI b)(XFc:XF (C b))(SF:oY (C b))(HF:mu (C b))(rm:ee A 300)(en:dE env 0 ρ)(ef:env.frame=some env.locals)(hfr:A.frames=some [env])(ck:Fj env.scope DV bd)(sc:DW s.heap S xs)(hx:xs.length<=100)(R0:(C b).R [] [] s₀.heap)(r:(C b).Rs [] [] s₀ ρ [.frame (hY S)] s)(hS:S∉dA ρ [.frame (hY S)])(hb:env.cells.lookup (nmT ey)=some cb)(vb:s.heap.IsCell cb none)(nb:cb∉dA ρ [.frame (hY S)])(ob:s₀.heap.get? cb=none)(hr:env.cells.lookup (nmT eH)=some cr)(vr:s.heap.IsCell cr none)(nr:cr∉dA ρ [.frame (hY S)])(or':s₀.heap.get? cr=none)(ne:cb≠cr)(neb:S≠cb)(q:∀ρ' s' σ',(C b).Rs [] [] s₀ ρ' σ' s'->Q (.ret (.bool true)) s'):wpAny (C b).M A (execs bd env) Q E s:=by
 have ck:=qE ck;rw[ck.1];obtain⟨_,c1,c2,c3,c4,c5,c6,ck⟩:=ck;have hf0:∀k,fx k (.frame (hY S)):=λk f hf=>.f (.k rfl .v .z);refine ak (EU G (rm.less ()) en c1 rfl sc hx hf0 R0 r (aJ _) hb vb nb ob λρ1 s1 r1 cv1 en1 f1 k1=>?_);have sc1:DW s1.heap S xs:=by
  exact sc.keep λo e=>k1 S o e hS neb
 obtain⟨oc,hoc,hdc⟩:=vr;have hc1:=k1 cr oc hoc nr (λz=>ne z.symm);have nr1:cr∉dA ρ1 (e7 (hY S) (xs.take 40,7) []):=λm=>by
  rcases f1 cr m with z | z
  .exact nr z
  .rw[hoc] at z;cases z
 refine ak (B2 G (rm.less ()) en1 c2 sc1 hx r1.rel cv1 λρ2 s2 r2=>?_);have hh:=AI (xs.take 40) (z:=7) () ();have hl40:(xs.take 40).length<=40:=by rw[cc];omega
 have b2:ik (xs.take 40,iN (xs.take 40) 7):=⟨hh.1,hh.2,bw hl40 ()⟩
 generalize hp:(xs.take 40,iN (xs.take 40) 7)=p2 at r2 b2;have hI:xs.take 40=p2.1:=by rw[<-hp]
 have r2':(C b).Rs ρ1 (e7 (hY S) (xs.take 40,7) []) s1 ρ2 (e7 (hY S) p2 [fg (xs.take 40)]) s2:=by rw[<-hp];rw[<-hp] at r2;exact r2
 have hc2:=r2'.keep cr oc hc1 nr1;have nr2:cr∉dA ρ2 (e7 (hY S) p2 [fg (xs.take 40)]):=λm=>by
  rcases r2'.fresh cr m with z | z
  .exact nr1 z
  .rw[hc1] at z;cases z
 refine ak (D2 G (rm.less ()) (en1.grow r2'.grow) c3 b2 R0 (aJ _) (r1.trans r2') (cv1.res r2') hr ⟨oc,hc2,hdc⟩ nr2 or' (λca h=>by rw[hb] at h;cases h;exact ne) λρ3 s3 r3 cb3 cr3 en3=>?_);have b3:=je (lim:=2) b2;generalize decide ((take 2 p2).1=1)=an at r3 cb3 cr3;generalize (take 2 p2).2=p3 at r3 cb3 cr3 b3;have hfa:∀k,fx k (.frame [(cT,.bool an)]):=λk f hf=>.f (.k rfl .b .z);refine ak (B6 G (rm.less ()) en3 c4 b3 r3.rel cb3 (hfa 5) λρ4 s4 r4=>?_);have t5:=jD (lim:=5) () p3;have ll:=jg (take 5 p3).1.toNat (take 5 p3).2;have l1:=kA (take 5 p3).1.toNat (take 5 p3).2;have lok:=tm (take 5 p3).1.toNat (take 5 p3).2;have b4:=lF (je (lim:=5) b3) (take 5 p3).1.toNat;generalize hlt:dm (take 5 p3).1.toNat (take 5 p3).2=lt at r4 ll l1 lok b4;obtain⟨ls,p4⟩:=lt;have hsl:(Txt.join ⟨#[]⟩ ls).length<=4:=by
  have j:(Txt.join ⟨#[]⟩ ls).length<=ls.length*1:=E3 (B:=1) l1;have:ls.length=(take 5 p3).1.toNat:=ll;omega
 have hok:=FT lok;generalize Txt.join ⟨#[]⟩ ls=sb at r4 hsl hok;have hf4:∀k,fx k (.frame [(cT,.bool an),(cS,.str true sb)]):=λk f hf=>.f (.k rfl .b (.k rfl .s .z));have T4:dg (C b) 4 (fb (List.range 4)) (e7 [(cT,.bool an),(cS,.str true sb)] p4 [cY]++[.list true (ls.map (V.str true))]) (·=e7 [(cT,.bool an),(cS,.str true sb)] p4 [cY]):=
  mP (c:=C b) (σ:=e7 [(cT,.bool an),(cS,.str true sb)] p4 [cY]) [.list true (ls.map (V.str true))] (rZ (show 1<4 by decide) (hf4 4) (ie .ref λI m=>by cases m))
 have r4':(C b).Rs ρ3 (e7 [(cT,.bool an)] p3 [cY]) s3 ρ4 (e7 [(cT,.bool an),(cS,.str true sb)] p4 [cY]++[.list true (ls.map (V.str true))]) s4:=r4;obtain⟨ρ5,σ5,rfl,r5,_⟩:=eR.tell (c:=C b) r4' T4 (ao 4) r3.rel.len;have hf5:fx 5 (.frame [(cT,.bool an),(cS,.str true sb),(hK,.obj 4)]):=λf hf=>.f (.k rfl .b (.k rfl .s (.k rfl (.o (hf 4 ())) .z)));refine ak (rY G (tl:=[]) (rm.less ()) (en3.grow r5.grow) c5 b4 () () r5.rel (cb3.res r5) (cr3.res r5) (hf4 _) hf5 (λI m=>by cases m) λρ6 s6 r6=>?_);have t2:=jD (lim:=2) () p4;have hfl:=kn (1+(take 2 p4).1.toNat) (take 2 p4).2;have b6:=lc (je (lim:=2) b4) (1+(take 2 p4).1.toNat);generalize d7 (1+(take 2 p4).1.toNat) (take 2 p4).2=fq at r6 hfl b6;obtain⟨fp,p6⟩:=fq;have hfl:fp.length<=2:=by rw[show fp.length=_ from hfl];omega
 have r56:=r5.trans r6;have r6':(C b).Rs ρ3 (e7 [(cT,.bool an)] p3 [cY]) s3 ρ6 (e7 [(cT,.bool an),(cS,.str true sb),(hK,.obj 4)] p6 (cY::[.list true (fp.map (db 3))])) s6:=r56;have hf6a:fx 6 (.frame [(cT,.bool an),(cS,.str true sb),(hK,.obj 4)]):=hf5.more ();have hf6:fx 6 (.frame [(cT,.bool an),(cS,.str true sb),(hK,.obj 4),(gW,.obj 5)]):=λf hf=>.f (.k rfl .b (.k rfl .s (.k rfl (.o (hf 4 ())) (.k rfl (.o (hf 5 ())) .z))));refine ak (rY G (tl:=[.list true (fp.map (db 3))]) (rm.less ()) (en3.grow r6'.grow) c6 b6 () () r6'.rel (cb3.res r6') (cr3.res r6') hf6a hf6 (ie (.parts (show 3<6 by decide) _) λI m=>by cases m) λρ7 s7 r7=>?_);have t3:=jD (lim:=3) () p6;have hbl:=kn (1+(take 3 p6).1.toNat) (take 3 p6).2;have b7:=lc (je (lim:=3) b6) (1+(take 3 p6).1.toNat);generalize d7 (1+(take 3 p6).1.toNat) (take 3 p6).2=bq at r7 hbl b7;obtain⟨bp,p7⟩:=bq;have hbl0:bp≠[]:=λz=>by
  rw[z] at hbl;simp only[bI] at hbl;omega
 have hbl:bp.length<=3:=by rw[show bp.length=_ from hbl];omega
 have r7':(C b).Rs ρ3 (e7 [(cT,.bool an)] p3 [cY]) s3 ρ7 (j4 an sb [] p7 fp bp []) s7:=r6'.trans r7;exact E0 G XFc SF HF rm (en3.grow r7'.grow) ef hfr ck hsl hok hfl hbl hbl0 b7 R0 (r3.trans r7') (cb3.res r7') q
section
set_option tactic.hygienic true
/-! the heap as a list of places -/
def Kb:Data->Bool
 | .freed=>true
 |_=>false
def qJ:Nat->List Obj->Frag
 |_,[]=>[]
 |n,o::r=>match Kb o.data with
  |true=>qJ (n+1) r
  |false=>(n,o)::qJ (n+1) r
def u5(h:Heap):Frag:=qJ 0 h.objs.toList
theorem vZ:∀{l:List Obj} {n a:Nat} {o:Obj},(qJ n l).lookup a=some o->∃i,a=n+i/\l[i]?=some o/\Kb o.data=false
 |[],_,_,_,h=>by cases h
 |x::r,n,a,o,h=>by
  have up:(qJ (n+1) r).lookup a=some o->∃i,a=n+i/\(x::r)[i]?=some o/\Kb o.data=false:=λh=>by
   obtain⟨i,rfl,h1,h2⟩:=vZ h;exact⟨i+1,by omega,h1,h2⟩
  have h:(match Kb x.data with | true=>qJ (n+1) r | false=>(n,x)::qJ (n+1) r).lookup a=some o:=h;cases hd:Kb x.data with
  |true=>rw[hd] at h;exact up h
  |false=>
   rw[hd] at h;have h:(match a==n with | true=>some x | false=>(qJ (n+1) r).lookup a)=some o:=h;cases hb:a==n with
   |true=>
    rw[hb] at h;obtain rfl:=ac h;exact⟨0,am.mp hb,rfl,hd⟩
   |false=>rw[hb] at h;exact up h
theorem BK(h:Heap):(u5 h).In h:=λa o e=>by
 obtain⟨i,rfl,h1,h2⟩:=vZ e;rw[bS];unfold Heap.get?;rw[Array.getElem?_toList] at h1;rw[h1];obtain⟨c,d,da,sl⟩:=o;cases da<;>first | rfl | exact q2 h2
def Ha:Data->Option (Array Value)
 | .seq c _=>some c
 |_=>none
theorem AS{d:Data}{c:Array Value}(h:Ha d=some c):∃n,d= .seq c n:=by cases d<;>cases h;exact⟨_,rfl⟩
def Kz:Data->Option FuncData
 | .func c=>some c
 |_=>none
theorem FS{d:Data}{c:FuncData}(h:Kz d=some c):d= .func c:=by cases d<;>cases h;rfl
def FA:Value->Option Addr
 | .ref a=>some a
 |_=>none
theorem zN{v:Value}{a:Addr}(h:FA v=some a):v= .ref a:=by cases v<;>cases h;rfl
def IP:Value->Option Int
 | .int a _=>some a
 |_=>none
theorem GV{v:Value}{a:Int}(h:IP v=some a):∃t,v= .int a t:=by cases v<;>cases h;exact⟨_,rfl⟩
def GO:Value->Option Str
 | .str a _=>some a
 |_=>none
theorem AO{v:Value}{a:Str}(h:GO v=some a):∃t,v= .str a t:=by cases v<;>cases h;exact⟨_,rfl⟩
def Md:FuncBody->Option (List Stmt)
 | .stmts b=>some b
 |_=>none
theorem Ea{d:FuncBody}{b:List Stmt}(h:Md d=some b):d= .stmts b:=by cases d<;>cases h;rfl
theorem jU{α:Type _}{o:Option α}{p:α->Bool}(h:o.any p):∃x,o=some x/\p x=true:=(bR _ _).mp h
/-! parameters -/
def ni(fd:FuncData)(ns:List Str):Bool:=
 fd.params.posonlyargs.isEmpty&&fd.params.args.map (·.arg)==ns&&fd.params.vararg.isNone&&fd.params.kwonlyargs.isEmpty&&fd.params.kwarg.isNone
def Ez(K:Frag)(fd:FuncData):Bool:=fd.defaults== .none||(FA fd.defaults).any λT=>(K.lookup T).any λo=>(Ha o.data).isSome
theorem wG{α β:Type}{f g:α->Option β}:∀{l:List α},(∀x∈l,f x=g x)->l.filterMap f=l.filterMap g
 |[],_=>rfl
 |x::l,h=>by rw[a8,a8,h x (.head _),wG λy m=>h y (.tail _ m)]
theorem l7:∀{ns:List Str} {xs:List Value},ns.length=xs.length->ns.Nodup->(ns.filterMap λn=>((ns.zip xs).lookup n).map (n,·))=ns.zip xs
 |[],[],_,_=>rfl
 |[],_::_,h,_=>by cases h
 |_::_,[],h,_=>by cases h
 |n::ns,x::xs,h,hd=>by
  obtain⟨h1,h2⟩:=List.nodup_cons.mp hd;have ih:=l7 (ns:=ns) (xs:=xs) (by simpa using h) h2;rw[List.zip_cons_cons,a8,aW,bC];dsimp only[Option.map];congr 1;refine Eq.trans (wG λm hm=>?_) ih;rw[aW,show(m==n)=false from bK.mpr λz=>h1 (z▸hm)];rfl
theorem jw:∀{ns:List Str} {xs:List Value} {n:Str},ns.length=xs.length->n∈ns->((ns.zip xs).lookup n).isNone=false
 |[],_,_,_,m=>by cases m
 |_::_,[],_,h,_=>by cases h
 |k::ns,x::xs,n,h,m=>by
  rw[List.zip_cons_cons,aW];cases hb:n==k with
  |true=>rfl
  |false=>
   rcases aD.mp m with rfl | m
   .rw[bC] at hb;cases hb
   .exact jw (by simpa using h) m
theorem zh{α β:Type}{l:List α}{b:β}{f:α->β->Sem (ForInStep β)}(h:∀x∈l,f x b=pure (.yield b)):forIn l b f=pure b:=by
 induction l with
 |nil=>rw[List.forIn_nil]
 |cons x l ih=>
  rw[List.forIn_cons,h x (.head _)];exact ih λy m=>h y (.tail _ m)
nonrec theorem ut{fd:FuncData}{ns:List Str}(h:ni fd ns)(hd:ns.Nodup)(xs:List Value)(hl:xs.length=ns.length):∃k:Option (Array Value)->Sem (List (Str×Value)),bindArgs fd ⟨xs,[]⟩=seqItems? fd.defaults >>= k/\∀o,k o=pure (ns.zip xs):=by
 obtain⟨h,h5⟩:=cW h;obtain⟨h,h4⟩:=cW h;obtain⟨h,h3⟩:=cW h;obtain⟨h1,h2⟩:=cW h;have e1:fd.params.posonlyargs=[]:=by simpa using h1
 have e2:fd.params.args.map (·.arg)=ns:=am.mp h2;have e3:fd.params.vararg=none:=by simpa using h3
 have e4:fd.params.kwonlyargs=[]:=by simpa using h4
 have e5:fd.params.kwarg=none:=by simpa using h5
 have m0:∀l:List Str,(∀n∈l,n∈ns)->(l.filter λn=>((ns.zip xs).lookup n).isNone)=[]:=λl hs=>List.filter_eq_nil_iff.mpr λn m=>by rw[jw hl.symm (hs n m)];decide
 unfold bindArgs;simp only[e1,e2,e3,e4,e5,List.map_nil,cP,List.forIn_nil,hl,pure_bind];refine⟨_,rfl,λo=>?_⟩;have lp:∀(l:List Str) (ds:List Value),(∀n∈l,n∈ns)->(forIn (l.zip ds) (ns.zip xs) λx r=>(if(List.lookup x.1 r).isNone=true then pure (ForInStep.yield (r++[(x.1,x.2)])) else pure (ForInStep.yield r):Sem (ForInStep (List (Str×Value)))))=pure (ns.zip xs):=λl ds hs=>
  zh λx m=>by rw[jw hl.symm (hs x.1 (cO m).1)];rfl
 simp [m0 _ (λn m=>List.mem_of_mem_take m),l7 hl.symm hd,lp _ _ (λn m=>List.mem_of_mem_drop m)]
theorem qL{fd:FuncData}{ns:List Str}(h:ni fd ns)(h0:fd.defaults= .none)(hd:ns.Nodup)(xs:List Value)(hl:xs.length=ns.length):bindArgs fd ⟨xs,[]⟩=pure (ns.zip xs):=by
 obtain⟨k,e1,e2⟩:=ut h hd xs hl;rw[e1,h0];exact e2 _
theorem Bz{K:Frag}{s:Shared}{fd:FuncData}{ns:List Str}(X:K.In s.heap)(h:ni fd ns)(h0:Ez K fd)(hd:ns.Nodup)(xs:List Value)(hl:xs.length=ns.length):BindsTo s fd ⟨xs,[]⟩ (ns.zip xs):=by
 cases(Bool.or_eq_true _ _).mp h0 with
 |inl e=>exact .of_eq (qL h (am.mp e) hd xs hl)
 |inr e=>
  obtain⟨T,e,h0⟩:=jU e;obtain⟨o,hk,h0⟩:=jU h0;obtain⟨z',hs⟩:=Option.isSome_iff_exists.mp h0;obtain⟨n,hs⟩:=AS hs;obtain⟨k,e1,e2⟩:=ut h hd xs hl;exact .of_defaults (zN e) (X _ _ hk) hs e1 (e2 _)
/-! the functions -/
def tz(K:Frag)(f:Addr)(ps:List Nm)(body:List MS)(more:FuncData->List Stmt->Bool):Bool:=(K.lookup f).any λo=>(Kz o.data).any λfd=>fd.scope.kind== .function&& !fd.scope.isCoroutine&& !fd.scope.isGenerator&&fd.globals==mainGlobals&&fd.builtins==builtinsNs&&codeIn K fd.code fd.qualname&&
   fd.scope.names.all (λx=>x.2 != .cell)&&ps.all (λn=>fd.scope.names.lookup (nmT n)==some .local)&&ni fd (ps.map nmT)&&Ez K fd&&decide ps.Nodup&&
   (Md fd.body).any λb=>iT nmT fd.scope body b&&more fd b
theorem tH(inj:∀i j,nmT i=nmT j->i=j){ps:List Nm}(h:ps.Nodup):(ps.map nmT).Nodup:=List.Pairwise.map nmT (λa b ne e=>ne (inj a b e)) h
nonrec theorem mT{b:Bs}{f:Addr}{ps:List Nm}{body:List MS}{more:FuncData->List Stmt->Bool}(inj:∀i j,nmT i=nmT j->i=j)(h:tz b.K f ps body more):∃fd bd,tO (C b) f ps body fd bd/\more fd bd=true:=by
 obtain⟨o,hf,h⟩:=jU h;obtain⟨fd,hd,h⟩:=jU h;obtain⟨h,h11⟩:=cW h;obtain⟨h,h10⟩:=cW h;obtain⟨h,h9d⟩:=cW h;obtain⟨h,h9⟩:=cW h;obtain⟨h,h8⟩:=cW h;obtain⟨h,h7⟩:=cW h;obtain⟨h,h6⟩:=cW h;obtain⟨h,h5⟩:=cW h;obtain⟨h,h4⟩:=cW h;obtain⟨h,h3⟩:=cW h;obtain⟨h1,h2⟩:=cW h;obtain⟨bd,hb,h11⟩:=jU h11;obtain⟨k1,k2⟩:=cW h11;have nd:=aS h10;have hf:∃c d sl,b.K.lookup f=some ⟨c,d,.func fd,sl⟩:=⟨o.cls,o.dict,o.slots,by rw[hf,<-FS hd]⟩
 exact⟨fd,bd,⟨hf,am.mp h1,mt h2,mt h3,am.mp h4,am.mp h5,h6,λx m=>bne_iff_ne.mp (aT.mp h7 x m),λn m=>am.mp (aT.mp h8 n m),λs X xs hl=>Bz X h9 h9d (tH inj nd) xs (by rw[hl,af]),nd,Ea hb,k1⟩,k2⟩
/-! names of the program's own module -/
mutual
noncomputable def GS(K:Frag):V->Value->Bool
 | .none,x=>x== .none
 | .bool b,x=>x== .bool b
 | .int _ i,x=>IP x==some i
 | .str _ s,x=>GO x==some s
 | .tup vs,x=>(FA x).any λa=>(K.lookup a).any λo=>o.cls== .type "tuple"&&(Ha o.data).any λz'=>wX K vs z'.toList
 | .obj _,_=>false
 | .val y,x=>x==y&&wB y
 | .bi k,x=>x==me k
noncomputable def wX(K:Frag):List V->List Value->Bool
 |[],xs=>xs.isEmpty
 |v::vs,xs=>match xs with
  |x::xs=>GS K v x&&wX K vs xs
  |[]=>false
end
mutual
theorem AJ{K:Frag}{h:Heap}(X:K.In h):∀{v:V} {x:Value},GS K v x=true->dH [] h v x
 | .none,x,e=>(am (a:=x) (b:=.none)).mp e
 | .bool b,x,e=>(am (a:=x) (b:=.bool b)).mp e
 | .int _ i,x,e=>GV ((am (a:=IP x) (b:=some i)).mp e)
 | .str _ s,x,e=>AO ((am (a:=GO x) (b:=some s)).mp e)
 | .tup vs,x,e=>by
  have e:((FA x).any λa=>(K.lookup a).any λo=>o.cls== .type "tuple"&&(Ha o.data).any λz'=>wX K vs z'.toList)=true:=e;obtain⟨a,ha,e⟩:=jU e;obtain⟨o,hf,e⟩:=jU e;obtain⟨e1,e⟩:=cW e;obtain⟨z',hs,e⟩:=jU e;obtain⟨n,hs⟩:=AS hs;exact⟨a,z'.toList,zN ha,⟨_,X _ _ hf,am.mp e1,n,by rw[hs,Array.toArray_toList]⟩,w9 X e⟩
 | .obj _,x,e=>q3 e
 | .val y,x,e=>by
  obtain⟨e1,e2⟩:=cW (show(x==y&&wB y)=true from e);exact⟨am.mp e1,e2⟩
 | .bi k,x,e=>(am (a:=x) (b:=me k)).mp e
theorem w9{K:Frag}{h:Heap}(X:K.In h):∀{vs:List V} {xs:List Value},wX K vs xs=true->dy [] h vs xs
 |[],xs,e=>by
  cases xs with
  |nil=>rfl
  |cons _ _=>cases e
 |v::vs,xs,e=>by
  cases xs with
  |nil=>cases e
  |cons x xs=>
   obtain⟨e1,e2⟩:=cW (show(GS K v x&&wX K vs xs)=true from e);exact⟨x,xs,rfl,AJ X e1,w9 X e2⟩
end
def xo(K:Frag)(mg:Str->Option Value)(p:Nat×V):Bool:=match mg (nmT p.1) with
 |some x=>GS K p.2 x
 |none=>match p.2 with
  | .bi k=>bootBuiltins (nmT p.1)==some (me k)&&nmT p.1 != ("__name__":Str)
  |_=>false
theorem DN{K:Frag}{h:Heap}{mg mb:Str->Option Value}(X:K.In h)(hb:∀x:Str,x≠"__name__"->mb x=bootBuiltins x){n:Nat}{v:V}(e:xo K mg (n,v)):∃x,(mg (nmT n)=some x\/(mg (nmT n)=none/\mb (nmT n)=some x))/\dH [] h v x:=by
 unfold xo at e
 split at e
 .rename_i x hx
  exact⟨x,.inl hx,AJ X e⟩
 .rename_i hx
  split at e
  .rename_i k hv
   obtain⟨e1,e2⟩:=cW e;have hv:v= .bi k:=hv;subst hv;refine⟨me k,.inr ⟨hx,?_⟩,rfl⟩;rw[hb _ (by simpa using e2)];exact am.mp e1
  .cases e
theorem i4{α:Type}:∀{l:List (Nat×α)} {n:Nat} {v:α},jA n l=some v->(n,v)∈l
 |(k,w)::l,n,v,h=>by
  have h:(match Nat.beq k n with | true=>some w | false=>jA n l)=some v:=h;cases e:Nat.beq k n with
  |true=>
   rw[e] at h;rw[aP e,ac h];exact .head _
  |false=>rw[e] at h;exact .tail _ (i4 h)
end
def zj(s:Str):List Str->Bool
 |[]=>true
 |t::l=> !(s==t)&&zj s l
def yC:List Str->Bool
 |[]=>true
 |s::l=>s.cps.toList.all (λc=>Nat.blt c 2000000)&&zj s l&&yC l
theorem qC{s:Str}:∀{l:List Str},zj s l=true->s∉l
 |[],_,m=>by cases m
 |t::l,h,m=>by
  obtain⟨a,b⟩:=cW h;rcases aD.mp m with rfl | m
  .simp at a
  .exact qC b m
theorem uc:∀{l:List Str},yC l=true->(∀i j s,nth l i=some s->nth l j=some s->i=j)/\∀i s,nth l i=some s->∀c∈s.cps.toList,c<2000000
 |[],_=>⟨λi j s h=>(by cases h),λi s h=>(by cases h)⟩
 |t::l,h=>by
  obtain⟨h,c⟩:=cW h;obtain⟨a,b⟩:=cW h;obtain⟨k1,k2⟩:=uc c;have mem:∀{i s},nth l i=some s->s∈l:=λ{i s} e=>by rw[dP] at e;exact List.mem_of_getElem? e
  refine⟨λi j s hi hj=>?_,λi s hi=>?_⟩
  .cases i with
   |zero=>
    cases j with
    |zero=>rfl
    |succ j=>cases hi;exact absurd (mem hj) (qC b)
   |succ i=>
    cases j with
    |zero=>cases hj;exact absurd (mem hi) (qC b)
    |succ j=>rw[k1 i j s hi hj]
  .cases i with
   |zero=>
    cases hi;intro c m;have:=aT.mp a c m;exact aV this
   |succ i=>exact k2 i s hi
theorem xL:yC wp:=by walk_at"k"
theorem mV:∀i j,nmT i=nmT j->i=j:=by
 obtain⟨k1,k2⟩:=uc xL;intro i j e;unfold nmT at e;cases hi:nth wp i with
 |some s=>
  cases hj:nth wp j with
  |some t=>
   rw[hi,hj] at e;have e:s=t:=e;subst e;exact k1 i j s hi hj
  |none=>
   rw[hi,hj] at e;have e:s=⟨#[2000000+j]⟩:=e;subst e;have:=k2 i _ hi (2000000+j) (.head _);omega
 |none=>
  cases hj:nth wp j with
  |some t=>
   rw[hi,hj] at e;have e:⟨#[2000000+i]⟩=t:=e;subst e;have:=k2 j _ hj (2000000+i) (.head _);omega
  |none=>
   rw[hi,hj] at e;have e:(⟨#[2000000+i]⟩:Str)=⟨#[2000000+j]⟩:=e;injection e with e;injection e with e;injection e with e;omega
def yX(K:Frag):Bool:=
 HW.all (λp=>tz K p.1 p.2.1 p.2.2 λI I=>true)&&
 sS.all (λp=>pq K p.1&&rW K p.1 "__init__" p.2.1&&keepIn K (.ref p.1)&&p.2.2.all (λq=>rW K p.1 (nmT q.1) q.2))&&
 uP.all (λp=>pq K p.1&&p.2.all (λn=>CJ K p.1 (nmT n)))
theorem Gf{b:Bs}(X:b.K.In b.h₀)(g:b.h₀.Ns mainGlobals b.mg)(hb:b.h₀.Ns builtinsNs b.mb)(lim:b.h₀.NoLimit)(bt:∀x:Str,x≠"__name__"->b.mb x=bootBuiltins x)(h1:yX b.K)(h2:AK.all (xo b.K b.mg)):dI b:=by
 obtain⟨h,h3⟩:=cW h1;obtain⟨h4,h5⟩:=cW h;have h4:=aT.mp h4;have h5:=aT.mp h5;have h3:=aT.mp h3;have h2:=aT.mp h2;refine⟨⟨X,g,hb,lim,mV,λn v e=>DN X bt (h2 (n,v) (i4 e)),λCc f e=>?_,λCc n f e=>?_,λCc n e=>?_⟩,⟨λf ps body e=>?_⟩⟩
 .have e:(match jA Cc sS with | some (i,_)=>(match i with | 0=>none | i+1=>some (i+1)) | none=>none)=some f:=e
  cases q:jA Cc sS with
  |none=>rw[q] at e;cases e
  |some p=>
   obtain⟨i,ms⟩:=p;rw[q] at e;have m:=h5 (Cc,i,ms) (i4 q);obtain⟨m,m4⟩:=cW m;obtain⟨m,m3⟩:=cW m;obtain⟨m1,m2⟩:=cW m;cases i with
   |zero=>cases e
   |succ i=>cases e;exact⟨m1,m2,m3⟩
 .have e:(match jA Cc sS with | some (_,l)=>jA n l | none=>none)=some f:=e
  cases q:jA Cc sS with
  |none=>rw[q] at e;cases e
  |some p=>
   obtain⟨i,ms⟩:=p;rw[q] at e;have m:=h5 (Cc,i,ms) (i4 q);obtain⟨m,m4⟩:=cW m;obtain⟨m,m3⟩:=cW m;obtain⟨m1,m2⟩:=cW m;exact⟨m1,aT.mp m4 (n,f) (i4 e)⟩
 .have e:(match jA Cc uP with | some l=>BP n l | none=>false)=true:=e
  cases q:jA Cc uP with
  |none=>rw[q] at e;cases e
  |some l=>
   rw[q] at e;obtain⟨m1,m2⟩:=cW (h3 (Cc,l) (i4 q));exact⟨m1,aT.mp m2 n (sI e)⟩
 .obtain⟨fd,bd,K,_⟩:=mT (b:=b) mV (h4 (f,ps,body) (i4 e))
  exact⟨fd,bd,K⟩
section
set_option tactic.hygienic true
def Ke:Data->Option ClassData
 | .cls c=>some c
 |_=>none
theorem GJ{d:Data}{c:ClassData}(h:Ke d=some c):d= .cls c:=by cases d<;>cases h;rfl
def Lq:Data->Option (Array Value)
 | .fields c=>some c
 |_=>none
theorem FK{d:Data}{c:Array Value}(h:Lq d=some c):d= .fields c:=by cases d<;>cases h;rfl
def KV:Data->Option Value
 | .cell c=>c
 |_=>none
theorem Hd{d:Data}{c:Value}(h:KV d=some c):d= .cell (some c):=by cases d<;>cases h;rfl
theorem t6{α:Type _}:∀{l:List α} {n:Nat},l.length=n+1->∃a r,l=a::r/\r.length=n
 |a::r,_,h=>⟨a,r,rfl,Nat.succ.inj h⟩
theorem Jz{l:List (Option Value)}(h:l.length=6):∃a b c d e f,l=[a,b,c,d,e,f]:=by
 obtain⟨a,l1,e1,h1⟩:=t6 h;obtain⟨b,l2,e2,h2⟩:=t6 h1;obtain⟨c,l3,e3,h3⟩:=t6 h2;obtain⟨d,l4,e4,h4⟩:=t6 h3;obtain⟨e,l5,e5,h5⟩:=t6 h4;obtain⟨f,l6,e6,h6⟩:=t6 h5;exact⟨a,b,c,d,e,f,by rw[e1,e2,e3,e4,e5,e6,List.eq_nil_of_length_eq_zero h6]⟩
def LW(o:Obj)(cd:ClassData):Bool:=o.cls== .type "type"&&cd.mro== .ref 120::Fk&&cd.ns==119&&cd.hasDict&& !cd.hasDel&&Nat.beq o.slots.toList.length 6&&o.slots.toList[4]?==some (some (.builtin "Exception.__new__"))
def Am(K:Frag):Bool:=(K.lookup 120).any λo=>(Ke o.data).any (LW o)
theorem zL{K:Frag}(h:Am K):∃xc:zg,K.lookup 120=some (xc.o 120 119 Fk true "Exception.__new__"):=by
 obtain⟨o,hf,h⟩:=(bR _ _).mp h;obtain⟨cd,hd,h⟩:=(bR _ _).mp h;have a:=cW h;have b:=cW a.1;have c:=cW b.1;have d:=cW c.1;have e:=cW d.1;have f:=cW e.1;obtain⟨oc,od,da,⟨sl⟩⟩:=o;obtain⟨nm,bs,mro,ns,q,hdct,sn,sub,ab,col,hdel⟩:=cd;obtain⟨k0,k1,k2,k3,k4,k5,rfl⟩:=Jz (aP b.2);have h4:k4=some (.builtin "Exception.__new__"):=ac (am.mp a.2);refine⟨⟨nm,q,bs,sn,sub,ab,col,od,k0,k1,k2,k3,k5⟩,hf.trans (az some ?_)⟩;rw[show oc=_ from am.mp f.1,show da=_ from GJ hd,show mro=_ from am.mp f.2,show ns=_ from am.mp e.2,show hdct=true from d.2,show hdel=false from mt c.2,h4]
def CH(K:Frag)(mf:Str)(fd:FuncData)(b:List Stmt):Bool:=
 Fj fd.scope (.cons Id .any) b&&fd.closure==[(("__class__":Str),104)]&&fd.scope.names.lookup ("super":Str)==some .globalImplicit&&fd.scope.names.lookup ("__class__":Str)==some .free&&
 ((fd.params.posonlyargs++fd.params.args).head?.any λar=>ar.arg==nmT cV)&&fd.code== .ref 116&&
 (K.lookup 116).any λo=>(Lq o.data).any λvs=>(vs[2]?:Option Value).any λv=>(GO v).any λf=>mf==f
def Me(mN:Str->Option Value):Bool:=
 mN "__init__"==some (.ref 117)&&(mN "__setattr__").isNone&&(mN (nmT dX)).isNone&&(mN (nmT dN)).isNone&&(mN "__getattribute__").isNone&&(mN "__getattr__").isNone
def LV(mg:Str->Option Value):Bool:=(mg "super").isNone&&mg "SnobolError"==some (.ref 120)
def xY(K:Frag)(mf:Str):Bool:=
 Am K&&nsIn K cStatics "thirdparty.any"==some none&&tz K 117 [cV,dX,dN] HT (CH K mf)&&
 ((K.lookup 117).any λo=>o.cls== .type "function")&&((K.lookup 104).any λo=>KV o.data==some (.ref 120))&&
 tz K 573 [cV] gi (λfd=>Fj fd.scope u1)&&tz K 676 [dR,cU,cS,cT,dK] gm λfd=>Fj fd.scope (.l [.any,xI,.any,rO])
theorem GL:typeLookup (.type "Exception") (nmT dX)=pure none:=by rw[typeLookup_type,builtinLookup_eq_fast];kernel_rfl
theorem C8:typeLookup (.type "Exception") (nmT dN)=pure none:=by rw[typeLookup_type,builtinLookup_eq_fast];kernel_rfl
theorem zK:bootBuiltins "super"=some (.type "super"):=by kernel_rfl
theorem Ji{b:Bs}{mN:Str->Option Value}(h2:xY b.K b.prog.main.file)(hN:b.h₀.Ns 119 mN)(hn:Me mN)(hm:LV b.mg)(bt:∀x:Str,x≠"__name__"->b.mb x=bootBuiltins x)(ht:(b.prog.main.scope.names.lookup ("super":Str)).isSome=false):XF (C b)/\oY (C b)/\mu (C b):=by
 obtain⟨h,f7⟩:=cW h2;obtain⟨h,f6⟩:=cW h;obtain⟨h,f5⟩:=cW h;obtain⟨h,f4⟩:=cW h;obtain⟨h,f3⟩:=cW h;obtain⟨f1,f2⟩:=cW h;obtain⟨h,n6⟩:=cW hn;obtain⟨h,n5⟩:=cW h;obtain⟨h,n4⟩:=cW h;obtain⟨h,n3⟩:=cW h;obtain⟨n1,n2⟩:=cW h;obtain⟨m1,m2⟩:=cW hm;have no:∀{o:Option Value},o.isNone=true->o=none:=λ{o} e=>by simpa using e
 refine⟨⟨zL f1,⟨mN,hN,am.mp n1,no n2,no n3,no n4⟩,⟨mN,hN,no n3,no n5,no n6⟩,am.mp f2,GL,C8,?_,λo e=>?_,?_,ht,⟨no m1,?_⟩,am.mp m2⟩,?_,?_⟩
 .obtain⟨fd,bd,K,mo⟩:=mT (b:=b) mV f3
  obtain⟨mo,g7⟩:=cW mo;obtain⟨mo,g6⟩:=cW mo;obtain⟨mo,g5⟩:=cW mo;obtain⟨mo,g4⟩:=cW mo;obtain⟨mo,g3⟩:=cW mo;obtain⟨g1,g2⟩:=cW mo;refine⟨fd,bd,K,g1,am.mp g2,am.mp g3,am.mp g4,?_,?_⟩
  .obtain⟨ar,e,z⟩:=(bR _ _).mp g5
   exact⟨ar,e,am.mp z⟩
  .obtain⟨o,hk,z⟩:=(bR _ _).mp g7
   obtain⟨vs,hd,w⟩:=(bR _ _).mp z;clear z;obtain⟨co,cd,da,sl⟩:=o;obtain rfl:=FK hd;obtain⟨v,hv,w⟩:=jU w;obtain⟨file,hf,w⟩:=jU w;obtain⟨tf,hf⟩:=AO hf;exact⟨vs,file,tf,co,cd,sl,am.mp g6,hk,hf▸hv,w⟩
 .obtain⟨o',e',z⟩:=(bR _ _).mp f4
  cases e'.symm.trans (show b.K.lookup 117=some o from e);exact am.mp z
 .obtain⟨o,hk,z⟩:=(bR _ _).mp f5
  obtain⟨co,cd,da,sl⟩:=o;obtain rfl:=Hd (am.mp z);exact⟨co,cd,sl,hk⟩
 .show b.mb "super"=_
  rw[bt _ ()];exact zK
 .exact mT (b:=b) mV f6
 .exact mT (b:=b) mV f7
end
section
set_option tactic.hygienic true
theorem se(x:Str)(k:NameKind)(r:List (Str×NameKind))(n:Nat)(B':List (Str×Addr)):cellsFrom n ((x,k)::r) B'=if k== .cell then cellsFrom (n+1) r ((x,n)::B') else cellsFrom n r B':=by
 rw[cellsFrom]
theorem kZ:∀(names:List (Str×NameKind)) (n:Nat) (B':List (Str×Addr)),cellsFrom n names B'=cellsFrom n (names.filter λx=>x.2== .cell) B'
 |[],_,_=>rfl
 |(x,k)::r,n,B'=>by
  rw[List.filter_cons,se];dsimp only;cases hk:k==NameKind.cell with
  |true=>rw[if_pos rfl,if_pos rfl,se,hk,if_pos rfl];exact kZ r _ _
  |false=>rw[if_neg (),if_neg ()];exact kZ r _ _
def Ei(fd:FuncData):Bool:=
 fd.scope.kind== .function&& !fd.scope.isCoroutine&& !fd.scope.isGenerator&&fd.globals==mainGlobals&&fd.builtins==builtinsNs&&fd.closure.isEmpty&&(ni fd [nmT eK]&&fd.defaults== .none)&&fd.scope.names.lookup (nmT eK)==some .local&&
 (fd.scope.names.filter λx=>x.2== .cell)==[(nmT ey,.cell),(nmT eH,.cell)]&&
 (Md fd.body).any λbd=>Fj fd.scope DV bd
nonrec theorem G5{b:Bs}{a S:Addr}{o:Obj}{fd:FuncData}{xs:List Int}{Q E:Value->Shared->Prop}(G:dI b)(XFc:XF (C b))(SF:oY (C b))(HF:mu (C b)){s:Shared}(hh:b.h₀=s.heap)(ho:s.heap.get? a=some o)(hd:o.data= .func fd)(hc:s.heap.CodeRec fd.code fd.qualname)(hl:Ei fd)(sc:DW s.heap S xs)(hx:xs.length<=100)(q:∀s',(∀b o,s.heap.get? b=some o->s'.heap.get? b=some o)->s'.os=s.os->s'.gens=s.gens->Q (.bool true) s'):wpAny (C b).M callerA (call (.ref a) [.ref S]) Q E s:=by
 obtain⟨hl,f10⟩:=cW hl;obtain⟨hl,f9⟩:=cW hl;obtain⟨hl,f8⟩:=cW hl;obtain⟨hl,f7⟩:=cW hl;obtain⟨hl,f6⟩:=cW hl;obtain⟨hl,f5⟩:=cW hl;obtain⟨hl,f4⟩:=cW hl;obtain⟨hl,f3⟩:=cW hl;obtain⟨f1,f2⟩:=cW hl;have f1:=am.mp f1;have f4:=am.mp f4;have f5:=am.mp f5;have f8:=am.mp f8;have f9:=am.mp f9;obtain⟨bd,hbd,f10⟩:=jU f10;have hbd:=Ea hbd;have nd:[nmT eK].Nodup:=by simp
 have hcells:cellsFrom (s.heap.objs.size+1) fd.scope.names []=[(nmT eH,s.heap.objs.size+2),(nmT ey,s.heap.objs.size+1)]:=by
  rw[kZ,f9];rfl
 have nbr:(nmT ey==nmT eH)=false:=bK.mpr λz=>by have:=mV _ _ z;cases this
 refine cR (codeAny_call_cells (by decide+kernel) ho hd (hh▸G.X.lim) hc hbd (qL (cW f7).1 (am.mp (cW f7).2) nd [.ref S] rfl) (by simpa using f6) (λx m=>?_) (λs₁ X=>?_) (by simpa using f2) (by simpa using f3) f1)
 .cases aj.mp m
  exact .inl f8
 .-- the state at the body's begin
  have hL:(callEnvC fd s.heap.objs.size a).locals=s.heap.objs.size:=rfl;obtain⟨h₁,tk,e₁⟩:=X.toInCall.same;have kp:=X.toInCall.keep;have hns:s₁.heap.Ns s.heap.objs.size λy=>if y=nmT eK then some (.ref S) else none:=by
   have:=X.toInCall.ns;rw[hL] at this;have e:bindL (callEnvC fd s.heap.objs.size a).kindOf ([nmT eK].zip [Value.ref S]) (λI=>none)=λy=>if y=nmT eK then some (.ref S) else none:=by
    show bindL _ [(nmT eK,Value.ref S)] _=_;unfold bindL;rw[if_pos (show(callEnvC fd s.heap.objs.size a).kindOf (nmT eK)=some .local from f8)];rfl
   rw[e] at this;exact this
  have R0:(C b).R [] [] s.heap:=⟨rfl,(λi b o e=>by cases e),(λi j a b o o' e=>by cases e),(λx m=>by cases m),(λb' o' e=>by have e:b.h₀.get? b'=some o':=e;rw[hh] at e;exact e)⟩
  have fE:s.heap.get? s.heap.objs.size=none:=fA s;have r0:(C b).Rs [] [] s ([]++[s.heap.objs.size]) ([]++[.frame (hY S)]) s₁:=by
   refine eR.pushC (o:=.frame (hY S)) R0 kp (λx m=>by cases aj.mp m;exact fE) ⟨_,hns,λn v e=>?_⟩ (by rw[e₁]) (by rw[e₁]) (by
    obtain⟨o,es,ep,h,_⟩:=hns;exact aZ (ay h))
   cases hb:Nat.beq eK n with
   |true=>
    have e:(match Nat.beq eK n with | true=>some (V.val (.ref S)) | false=>none)=some v:=e;rw[hb] at e;obtain rfl:=ac e;exact⟨.ref S,if_pos (az nmT (aP hb).symm),rfl,rfl⟩
   |false=>
    have e:(match Nat.beq eK n with | true=>some (V.val (.ref S)) | false=>none)=some v:=e;rw[hb] at e;cases e
  have r0:(C b).Rs [] [] s [s.heap.objs.size] [.frame (hY S)] s₁:=r0;obtain⟨z',⟨oS,hoS,rS⟩,vS⟩:=sc;have ltS:=ay hoS;have feet1:∀{x:Addr},x≠s.heap.objs.size->x∉dA [s.heap.objs.size] [.frame (hY S)]:=λ{x} ne m=>by
   obtain⟨i,a',o',e1,e2,m⟩:=dC.mp m;cases i with
   |zero=>cases e1;cases e2;exact ne (aj.mp m)
   |succ i=>cases e1
  have noneAt:∀k,s.heap.get? (s.heap.objs.size+k)=none:=λk=>by
   cases q:s.heap.get? (s.heap.objs.size+k) with
   |none=>rfl
   |some o=>exact absurd (ay q) (cF.mpr (aA _ _))
  have cellN:∀n c,(callEnvC fd s.heap.objs.size a).cells.lookup n=some c->s₁.heap.IsCell c none:=λn c h=>by
   have:=X.cell n c h;have e:bindC (callEnvC fd s.heap.objs.size a).kindOf ([nmT eK].zip [Value.ref S]) (λI=>none)=λI=>none:=by
    show bindC _ [(nmT eK,Value.ref S)] _=_;unfold bindC;rw[if_pos (show(callEnvC fd s.heap.objs.size a).kindOf (nmT eK)=some .local from f8)];rfl
   rw[e] at this;exact this
  have lb:(callEnvC fd s.heap.objs.size a).cells.lookup (nmT ey)=some (s.heap.objs.size+1):=by
   show(cellsFrom (s.heap.objs.size+1) fd.scope.names []).lookup _=_;rw[hcells,aW,nbr];dsimp only;rw[aW,bC]
  have lr:(callEnvC fd s.heap.objs.size a).cells.lookup (nmT eH)=some (s.heap.objs.size+2):=by
   show(cellsFrom (s.heap.objs.size+1) fd.scope.names []).lookup _=_;rw[hcells,aW,bC]
  have rm:ee (callerA.deeper (callEnvC fd s.heap.objs.size a)) 300:=⟨(show 1+claimMargin+1+300<recursionLimit by decide+kernel),(show 4+3+8*300<cLine by decide+kernel),rfl⟩
  refine Fe (S:=S) (cb:=s.heap.objs.size+1) (cr:=s.heap.objs.size+2) G XFc SF HF rm ⟨f1,rfl,f4,f5⟩ rfl (Around.frames_deeper rfl) f10 ⟨z',⟨oS,kp _ _ hoS,rS⟩,vS⟩ hx R0 r0 (feet1 (bG ltS)) lb (cellN _ _ lb) (feet1 (Nat.succ_ne_self _)) (noneAt 1) lr (cellN _ _ lr) (feet1 (Nat.ne_of_gt (Nat.lt_succ_of_lt (aX _)))) (noneAt 2) (bG (aX _)) (bG (Nat.lt_succ_of_lt ltS)) λρ' s' σ' r=>?_;exact q s' (λb o e=>r.keep b o e λm=>by cases m) r.os r.gens
end
theorem uv{R:WRecords}:∀{xs:List WData},WShape.hasItems R xs .int=true->∃ns:List Int,xs=ns.map WData.int
 |[],_=>⟨[],rfl⟩
 |x::xs,h=>by
  obtain⟨h1,h2⟩:=cW (show(WShape.has R x .int&&WShape.hasItems R xs .int)=true from h);obtain⟨ns,rfl⟩:=uv h2;cases x with
  |int i=>exact⟨i::ns,rfl⟩
  |_=>cases h1
nonrec theorem D6{l:OpenLaw}(hm:l.most=some 63){args:List WData}(h:l.row.toRowW.claim.pre args):∃ns:List Int,args=[.list (ns.map .int)]/\ns.length<=63:=by
 obtain⟨h1,h2⟩:=pre_splitW h;have h1:WShape.hasAll [] args [.list .int]:=h1;cases args with
 |nil=>cases h1
 |cons a r=>
  obtain⟨g1,h4⟩:=cW (show(WShape.has [] a (.list .int)&&WShape.hasAll [] r [])=true from h1);cases r with
  |cons b r=>cases(cW (show(false&&false)=true from h4)).1
  |nil=>
   cases a with
   |list xs=>
    have h3:WShape.hasItems [] xs .int:=(Bool.or_false _).symm.trans g1;obtain⟨ns,rfl⟩:=uv h3;refine⟨ns,rfl,?_⟩;have h2:l.pre.holds [] {args:=[.list (ns.map .int)]}=true:=h2;unfold OpenLaw.pre at h2;rw[hm] at h2
    by_cases hle:ns.length<=63
    .exact hle
    .exfalso
     revert h2;have hlt:(63:Int)<(ns.length:Int):=by omega
     have e:less? (WData.int 63) (WData.int (ns.length:Int))=some true:=by
      simp [less?,Num.less?,hlt]
     simp [WTm.holds,WTm.value,e]
   |_=>cases g1
def LF(mf:Str)(mg:Str->Option Value)(h:Heap):Prop:=∃K:Frag,K.In h/\yX K=true/\xY K mf=true/\AK.all (xo K mg)=true/\LV mg=true/\∃mN,h.Ns 119 mN/\Me mN=true
def X1(s:Shared):Bool:=yX (u5 s.heap)
def X2(mf:Str)(s:Shared):Bool:=
 xY (u5 s.heap) mf&&AK.all (xo (u5 s.heap) (s.heap.nsMap mainGlobals))&&LV (s.heap.nsMap mainGlobals)&&s.heap.isNs 119&&Me (s.heap.nsMap 119)
def Xt(mf:Str)(s:Shared):Bool:=X1 s&&X2 mf s
theorem LF.of{mf:Str}{s:Shared}(h:Xt mf s):LF mf (s.heap.nsMap mainGlobals) s.heap:=by
 obtain⟨f1,h⟩:=cW h;obtain⟨h,f6⟩:=cW h;obtain⟨h,f5⟩:=cW h;obtain⟨h,f4⟩:=cW h;obtain⟨f2,f3⟩:=cW h;exact⟨_,BK _,f1,f2,f3,f4,_,Heap.Ns.of_isNs f5,f6⟩
theorem LF.keeps{mf:Str}{mg:Str->Option Value}{h h':Heap}(x:LF mf mg h)(k:∀b o,h.get? b=some o->h'.get? b=some o):LF mf mg h':=by
 obtain⟨K,k1,k2,k3,k4,k5,mN,k6,k7⟩:=x;exact⟨K,k1.keeps k,k2,k3,k4,k5,mN,k6.keeps k,k7⟩
def Ju(d:DefRec):Bool:=
 d.scope.kind== .function&& !d.scope.isCoroutine&& !d.scope.isGenerator&&d.params.posonlyargs.isEmpty&&d.params.args.map (·.arg)==[nmT eK]&&d.params.vararg.isNone&&d.params.kwonlyargs.isEmpty&&d.params.kwarg.isNone&&d.params.defaults.isEmpty&&
 d.scope.names.lookup (nmT eK)==some .local&&(d.scope.names.filter λx=>x.2== .cell)==[(nmT ey,.cell),(nmT eH,.cell)]&&Fj d.scope DV d.body
theorem Du{d:DefRec}{pm cd doc dV kV:Value}{mg:Str->Option Value}{h:Heap}{kwd:List (Str×Expr)}(e:Ju d)(D:Dflts mg h d.params kwd dV kV):Ei {docDef d.name d.params d.body d.scope pm cd doc with defaults:=dV,kwdefaults:=kV}=true:=by
 obtain⟨e,f12⟩:=cW e;obtain⟨e,f11⟩:=cW e;obtain⟨e,f10⟩:=cW e;obtain⟨e,f9⟩:=cW e;obtain⟨e,f8⟩:=cW e;obtain⟨e,f7⟩:=cW e;obtain⟨e,f6⟩:=cW e;obtain⟨e,f5⟩:=cW e;obtain⟨e,f4⟩:=cW e;obtain⟨e,f3⟩:=cW e;obtain⟨f1,f2⟩:=cW e;obtain rfl:=D.none (by simpa using f9);unfold Ei ni docDef;dsimp only;rw[f1,f2,f3,f4,f5,f6,f7,f8,f10,f11];exact f12
theorem Fd{R:WRecords}{cl:Str->Option Addr}{h:Heap}:∀{z':List Value} {ns:List Int} {as:List Addr},ReadsAllW R cl h z' (ns.map WData.int) as->∀ρ h',dy ρ h' (ns.map (V.int true)) z'
 |z',[],as,r=>by cases r;exact λI I=>.nil
 |z',n::ns,as,r=>by
  cases r with
  |cons r1 r2=>
   cases r1 with
   |int i t=>exact λρ h'=>.cons ⟨t,rfl⟩ (Fd r2 ρ h')
theorem DY(l:OpenLaw)(args ds:List WData):l.row.toRowW.claim.post args (.bool true) ds:=by
 show(WShape.has [] (.bool true) .bool&&WTm.holds [] (.eq .res (.lit (.bool true))) {args:=args,res:=some (.bool true),after:=ds})=true
 walk_at"k"
theorem Dk{R:WRecords}{cl:Str->Option Addr}{h:Heap}{vals:List Value}{ns:List Int}{as:List Addr}(rd:ReadsAllW R cl h vals [.list (ns.map .int)] as):∃S,vals=[.ref S]/\DW h S ns:=by
 cases rd with
 |cons r1 r2=>
  cases r2;cases r1 with
  |list h1 h2 h3 h4=>exact⟨_,rfl,_,⟨_,h1,h2,_,by rw[h3,Array.toArray_toList]⟩,Fd h4⟩
theorem Ep{l:OpenLaw}(hm:l.most=some 63){q:Program}{loose:List Str}{d:DefRec}{kwd:List (Str×Expr)}(hd:Ju d)(ht:(l.prog.main.scope.names.lookup ("super":Str)).isSome=false):
  WalkX q loose (LF l.prog.main.file) (λI=>Unit.unit) (λI=>Unit.unit) l.row.toRowW d kwd λf vs=>PySem.call f vs:=by
 intro w s₀ s₁ mg mb Gr _ a o pm cd doc dV kV ho hdat hc D hmg hg args vals as L hpre hlay rd wl _;obtain⟨ns,rfl,hlen⟩:=D6 hm hpre;obtain⟨K,k1,k2,k3,k4,k5,mN,k6,k7⟩:=Gr.X;have bt:=Gr.T.builtins;have G:dI ⟨l.prog,w,K,s₁.heap,mg,mb⟩:=Gf (b:=⟨l.prog,w,K,s₁.heap,mg,mb⟩) k1 Gr.T.g Gr.T.b Gr.T.nolimit bt k2 k4;obtain⟨e1,e2,e3⟩:=Ji (b:=⟨l.prog,w,K,s₁.heap,mg,mb⟩) k3 k6 k7 k5 bt ht;obtain⟨S,rfl,sc⟩:=Dk rd;refine G5 (b:=⟨l.prog,w,K,s₁.heap,mg,mb⟩) G e1 e2 e3 rfl ho hdat hc (Du hd D) sc (by omega) λs' kp ho' hg'=>?_;exact⟨.inl ⟨.bool true,.bool true,[],rfl,λI=>rfl,.bool true,DY l _ _,λI=>⟨List.nodup_nil,λI m=>by cases m⟩⟩,.of_keep kp,ho',.of_eq (by rw[hg',hg])⟩
section
set_option tactic.hygienic true
theorem Mm(t:Thread):through t=(endAt 0 t).isSome:=by
 obtain⟨cur,code,pos,st⟩:=t;cases st with
 |cons _ _=>rfl
 |nil=>cases cur<;>first | rfl | (rename_i x;cases x<;>rfl)
theorem Lv{tb:String->Option Builtin}{p:Program}{w:World}{n₀:Nat}{ann:Option Value}:∀{n:Nat} {s s':Shared} {t:Thread} {f:Flow} {c:Code} {q:Pos},segRun tb p w n₀ ann 0 n s t=some (f,s',c,q)->topRun tb p w n₀ ann n s t=some s'
 |0,_,_,_,_,_,_,h=>by cases h
 |n+1,s,s',t,f,c,q,h=>by
  unfold segRun at h;unfold topRun;rw[Mm];cases he:endAt 0 t with
  |some g=>rw[he] at h;cases h;rfl
  |none=>
   rw[he] at h;cases hk:stepOk n₀ ann t with
   |false=>rw[hk] at h;cases h
   |true=>
    rw[hk] at h;cases hs:step (denote tb) p w s t with
    |halt o s₂=>rw[hs] at h;cases h
    |go s₂ t₂=>rw[hs] at h;exact Lv h
def M6(l:List Obj):BT:=(l.zipIdx).foldl (λt p=>t.ins p.2 p.1) .nil
def T0(P:Params):BT:=M6 (boot_heap P).objs.toList
theorem JN(P:Params):absHeap (T0 P) 11 {}=boot_heap P:=by kernel_rfl
theorem KY(w:World):((boot_heap w.params).isNs mainGlobals&&(Array.mk []:Array GenState).size==0,(boot_heap w.params).objs.size,(boot_heap w.params).nsMap mainGlobals "__annotations__")=(true,11,some (.ref 6)):=by kernel_rfl
def HC(p q:Program)(loose:List Str)(X:Shared->Bool)(w:World)(s:Shared):=
 (staticsOk (importedModules p.main.body) (boot_heap w.params) s.heap&&namesBound p s.heap&&gensDone s&&laidKept (boot_heap w.params) s.heap,openSeen q loose (importedModules p.main.body) X true s)
nonrec theorem FW{p q:Program}{loose:List Str}{X:Shared->Bool}{N M:Nat}(e:opening p=plainProg p.main.scope.names)(f:∀s,fenceModules? p s=some s)(hN:Nat.ble 600 N)(le:Nat.ble M N)(head:∀(w:World) (os:OsState),(segRunT treeTable p w 11 (some (.ref 6)) 0 M ⟨T0 w.params,11,{},Array.mk [],boot_drawn,boot_toks,os⟩ (topStub p)).map (λr=>HC p q loose X w r.2.1.abs)=some (true,openGood q loose)):LeftO p q loose X (λI=>Unit.unit) (λI=>Unit.unit) N:=by
 exact(λw=>by
 obtain⟨⟨h,gs,d,k,os⟩,e0,e'⟩:=aq.mp (boot_open e hN f w);obtain⟨rfl,rfl,rfl,rfl⟩:h=boot_heap w.params/\gs=Array.mk []/\d=boot_drawn/\k=boot_toks:=by simpa using e'
 obtain⟨z1,z2,z3⟩:_/\_/\_:=by simpa only[bc] using KY w
 obtain⟨⟨fl,s',c,qq⟩,h1,h2⟩:=aq.mp (head w os);have r:=Lv (segRun_of h1);have r:=topRun_mono (N - M) _ _ _ _ r;rw[show M+(N - M)=N by have:=aV le;omega] at r;have ea:SharedT.abs ⟨T0 w.params,11,{},Array.mk [],boot_drawn,boot_toks,os⟩=⟨boot_heap w.params,Array.mk [],boot_drawn,boot_toks,os⟩:=by
  show(⟨absHeap (T0 w.params) 11 {},_,_,_,_⟩:Shared)=_;rw[JN]
 rw[ea] at r;obtain⟨l1,l2⟩:=Prod.mk.inj h2;have t:topFrom treeTable p w N ⟨boot_heap w.params,Array.mk [],boot_drawn,boot_toks,os⟩=some s'.abs:=by
  unfold topFrom;dsimp only;rw[z1,z2,z3,r];show(match staticsOk (importedModules p.main.body) (boot_heap w.params) s'.abs.heap&&namesBound p s'.abs.heap&&gensDone s'.abs&&laidKept (boot_heap w.params) s'.abs.heap with | true=>_ | false=>_)=_;rw[l1]
 unfold openEnds;rw[e0];show(topFrom treeTable p w N _).map _=_;rw[t];exact az some (Prod.ext l2 rfl))
end
abbrev pw:Program:=PySem.Challenge.pw_nz0413_01
def Ih(p:Program):Program:={p with main:={p.main with body:=p.main.body.drop 95}}
def oq(p:Program):List Str:=p.main.scope.names.dropLast.map (·.1)
def lK(p:Program):DefRec:=match p.main.body.drop 95 with
 | .FunctionDef n a b _ _ _ s _ _ q::_=>⟨n,a,b,s,q⟩
 |_=>⟨⟨#[]⟩,default,[],default,default⟩
theorem Iv:opening pw=plainProg pw.main.scope.names:=by kernel_rfl
theorem FL(s:Shared):fenceModules? pw s=some s:=by kernel_rfl
theorem J6:defOf (Ih pw) PySem.Challenge.rw_nz0413_01.row.name=some (lK pw,[]):=by kernel_rfl
theorem KD:pw.theDef PySem.Challenge.rw_nz0413_01.row.name=some ((lK pw).params,(lK pw).body,(lK pw).scope):=by kernel_rfl
theorem Ml:kwWritten? (lK pw).params.kwonlyargs (lK pw).params.kw_defaults=some []:=by kernel_rfl
theorem Kk:Ju (lK pw):=by kernel_rfl
theorem KB:(pw.main.scope.names.lookup ("super":Str)).isSome=false:=by kernel_rfl
theorem Mq:(chainsOk (Ih pw)&&opensWell pw)=true:=by kernel_rfl
theorem Jc:(frees PySem.Challenge.rw_nz0413_01.row.toRowW&&PySem.Challenge.rw_nz0413_01.row.toRowW.within.isEmpty)=true:=by kernel_rfl
theorem IO:pw.bare:=by exact⟨rfl,rfl,rfl,rfl,rfl,by kernel_rfl⟩
theorem JA:PySem.Challenge.rw_nz0413_01.row.toRowW.promised:=⟨[.list []],by kernel_rfl,by kernel_rfl⟩
theorem L9{α β:Type _}{o:Option α}{A:α->Bool}{f:α->Shared}{q:Program}{l m:List Str}{X x y:Shared->Bool}{v:β}{k:_->β}(hX:∀s,X s=(x s&&y s))(h1:o.map (λr=>(A r,k (openSeen q l m (λI=>true) true (f r))))=some (true,v))(h2:o.map (λr=>x (f r))=some true)(h3:o.map (λr=>y (f r))=some true):o.map (λr=>(A r,k (openSeen q l m X true (f r))))=some (true,v):=by
 cases o with
 |none=>nomatch h2
 |some r=>
  have e2:x (f r):=ac h2;have e3:y (f r):=ac h3;have e:openSeen q l m X true (f r)=openSeen q l m (λI=>true) true (f r):=by
   unfold openSeen;rw[hX,e2,e3];rfl
  show some (A r,k (openSeen q l m X true (f r)))=_;rw[e];exact h1
def RT(w:World)(os:OsState):=PySem.W.Fast.tw10110043849684766642 PySem.W.Fast.tw14364793385576792824 pw w 11 (some (.ref 6)) 0 4700 ⟨T0 w.params,11,{},Array.mk [],boot_drawn,boot_toks,os⟩ (topStub pw)
theorem Nq:∀(w:World) (os:OsState),(RT w os).map (λr=>HC pw (Ih pw) (oq pw) (λI=>true) w r.2.1.abs)=some (true,openGood (Ih pw) (oq pw)):=by
 intro w os
 kernel_rfl
theorem LB:∀(w:World) (os:OsState),(RT w os).map (λr=>X1 r.2.1.abs)=some true:=by
 intro w os
 kernel_rfl
theorem M4:∀(w:World) (os:OsState),(RT w os).map (λr=>X2 pw.main.file r.2.1.abs)=some true:=by
 intro w os
 kernel_rfl
theorem left:LeftO pw (Ih pw) (oq pw) (Xt pw.main.file) (λI=>Unit.unit) (λI=>Unit.unit) 60000:=by
 refine FW Iv FL () (M:=4700) () λw os=>?_;rw[PySem.W.Fast.te10110043849684766642,PySem.W.Fast.te14364793385576792824];exact L9 (o:=RT w os) (A:=λr=>staticsOk (importedModules pw.main.body) (boot_heap w.params) r.2.1.abs.heap&&namesBound pw r.2.1.abs.heap&&gensDone r.2.1.abs&&laidKept (boot_heap w.params) r.2.1.abs.heap) (f:=λr=>r.2.1.abs) (k:=λz=>z) (X:=Xt pw.main.file) (x:=X1) (y:=X2 pw.main.file) (λI=>rfl) (Nq w os) (LB w os) (M4 w os)
theorem K5(s:Shared):RecFacts PySem.Challenge.rw_nz0413_01.row.records s.heap:=recFacts_of (R:=[]) rfl
theorem Lh:(chainsOk (Ih pw)&&opensWell PySem.Challenge.rw_nz0413_01.row.prog&&(frees PySem.Challenge.rw_nz0413_01.row.toRowW&&PySem.Challenge.rw_nz0413_01.row.toRowW.within.isEmpty))=true:=a9.mpr ⟨Mq,Jc⟩
theorem Jf:WalkX (Ih pw) (oq pw) (LF pw.main.file) (λI=>Unit.unit) (λI=>Unit.unit) PySem.Challenge.rw_nz0413_01.row.toRowW (lK pw) [] λf vs=>PySem.call f vs:=Ep (l:=PySem.Challenge.rw_nz0413_01) rfl Kk KB
theorem Eo(k1:PySem.Challenge.rw_nz0413_01.row.wellSaid):PySem.Challenge.rw_nz0413_01.row.Holds:=
 holds_openX (r:=PySem.Challenge.rw_nz0413_01.row) (q:=Ih pw) (loose:=oq pw) (Xt:=Xt pw.main.file) (XP:=LF pw.main.file) (Yf:=λI=>Unit.unit) (Ya:=λI=>Unit.unit) (d:=lK pw) (kwd:=[]) (N:=60000)
  left (λs h=>LF.of h) (λmg h h' x k=>x.keeps k) J6 KD Ml (λs I=>K5 s) rfl k1 Lh IO JA Jf
theorem an{a b:Bool}(h:a)(k:b):(a&&b)=true:=by rw[h,k];rfl
abbrev Jd:=PySem.Challenge.rw_nz0413_01
theorem s3:namesResolve pw:=by kernel_rfl
theorem s5:noRoadLSs {strict:= !(importedModules pw.main.body).all cThrough.contains,foot:=none,bare:=(["vars","dir","locals"]:List Str).filter (readsOut pw pw.main.body)} pw.main.body=true:=by kernel_rfl
theorem s6:(namesMeet pw pw.main.body λI n=>attrL n)=true:=by kernel_rfl
theorem s1:looksOpen pw:=by
 refine an (an (an (an (an ?_ ?_) s3) ?_) s5) s6
 all_goals kernel_rfl
theorem GR:Jd.row.wellSaid:=by
 refine an (an (an (an (an (an (an (an (an (an (an (an (an (an (an s1 ?_) ?_) ?_) ?_) ?_) ?_) ?_) ?_) ?_) ?_) ?_) ?_) ?_) ?_) ?_
 all_goals kernel_rfl
theorem No:(Jd.bound'.all λn=> !builtinNamed n||Jd.about==[n]|| !Jd.reads n)=true:=by kernel_rfl
theorem Nk:(namesMeet Jd.prog Jd.above λI n=> !Jd.own.contains n)=true:=by kernel_rfl
theorem Go:PySem.Challenge.rw_nz0413_01.wellSaid:=by
 refine an (an (an (an (an (an (an (an (an (an (an (an (an (an (an (an (an (an GR ?_) ?_) ?_) ?_) ?_) ?_) ?_) ?_) ?_) No) ?_) ?_) ?_) ?_) ?_) ?_) Nk) ?_
 all_goals kernel_rfl
theorem lawHolds:PySem.Challenge.rw_nz0413_01.Holds:=holds_law Go Eo
end Mine.Internal
theorem PySem.Challenge.cw_nz0413_01_holds : PySem.Challenge.rw_nz0413_01.Holds :=
 Mine.Internal.lawHolds
