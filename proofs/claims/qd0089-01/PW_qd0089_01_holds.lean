import PyProof.Rows.All
import Wide.All
import OpenK.AllK
import Wide.FinOn
import PySem.Challenge.RW_qd0089_01
set_option Elab.async false
set_option bootstrap.genMatcherCode false
set_option compiler.extract_closed false
set_option genSizeOf false
set_option genInjectivity false
set_option backward.match.sparseCases false
set_option maxRecDepth 100000
set_option maxHeartbeats 0
namespace Mine
section
open Lean
abbrev Zx:=Syntax
def mzn (k:String) (as:Array Zx):Zx:=.node .none (("Lean.Parser.Tactic."++k).toName) (#[.atom .none k]++as)
def mzf (ts:Array Zx):Zx:=mzn "first" #[mkNullNode (ts.map fun t=>mkNullNode #[.atom .none "|",t])]
def mza (f:String) (as:Array Zx):Zx:=if as.isEmpty then mkIdent f.toName else .node .none `Lean.Parser.Term.app #[mkIdent f.toName,mkNullNode as]
def mzh:Zx:=.node .none `Lean.Parser.Term.syntheticHole #[.atom .none "?",.node .none `Lean.Parser.Term.hole #[.atom .none "_"]]
def mzv (x:String):Zx:=.atom .none x
def mzk (k:String) (as:Array Zx):Zx:=.node .none ("Lean.Parser.Tactic."++k).toName as
def mzg (k:String) (as:Array Zx):Zx:=.node .none ("Lean.Parser.Term."++k).toName as
def mzq (t:Zx):Zx:=mzk "tacticSeq" #[mzk "tacticSeq1Indented" #[mkNullNode #[t]]]
def mzj (t:Zx):Zx:=mzg "byTactic" #[mzv "by",mzq t]
def mze_:Zx:=mzg "hole" #[mzv "_"]
def mzx_ (k:String):Zx:=mzn k #[mzk "optConfig" #[mkNullNode]]
def mzc_ (x y:Zx):Zx:=mzg "typeAscription" #[mzg "hygienicLParen" #[mzv "(",.node .none `hygieneInfo #[mkIdent .anonymous]],x,mzv ":",mkNullNode #[y],mzv ")"]
def mzr_:Zx:=mzk "tacticRfl" #[mzv "rfl"]
def mzr (f:String) (as:Array Zx):Zx:=mzn "refine" #[mza f (as.push mzh)]
def mze (f:String) (as:Array Zx):Zx:=mzn "exact" #[mza f as]
def mzs (s:String) (f:String→Zx):Array Zx:=((s.splitOn " ").map f).toArray
def mzt (t:Zx):Zx:=mzf #[t,mzn "skip" #[]]
def mzi (xs:Array Zx):Zx:=mzn "intro" #[mkNullNode xs]
def mzl (f:String) (k:Nat) (e:Zx) (xs:Array Zx):Zx:=mkNullNode #[mzr (f++toString k) #[e],mzt (mzn "clear" #[mkNullNode #[e]]),mzi xs]
def mzy (p:Zx) (i:Nat):Zx:=let r:=p[0][0][0][0]; if r.isIdent&&p[0][0].getNumArgs==1&&r.getId != `rfl then r else mkIdent (.mkSimple s!"y{i}")
def mzo (s p e:Zx):Zx:=(s.setArg 1 (mkNullNode #[p])).setArg 3 (mkNullNode #[.atom .none ":=",mkNullNode #[e]])
def mzi_ (l:List Zx):Zx:=match l with
 | []=>mzg "dotIdent" #[mzv ".",mkIdent `nil]
 | x :: r=>mzg "app" #[mzg "dotIdent" #[mzv ".",mkIdent `cons],mkNullNode #[x,mzi_ r]]
def mzl_ (k:String) (n:Nat):Zx:=mzg "app" #[mzg "dotIdent" #[mzv ".",mkIdent k.toName],mkNullNode #[Syntax.mkNumLit (toString n)]]
def mzd_ (s:Zx):Zx:=let (m,_,e):=s.isScientificLit?.getD (0,false,0); mzg "app" #[mzg "dotIdent" #[mzv ".",mkIdent `lit],mkNullNode #[mzl_ "int" (m / 10 ^ e)]]
def mzo_ (s:Zx):Zx:=mzl_ "loc" ((s.isCharLit?.getD 'a').toNat - 97)
def mzw (s p e:Zx):Zx:=if p[0][0][0][0]==e||p[0][0][0].isOfKind `Lean.Parser.Tactic.rcasesPat.ignore then mkNullNode #[] else mzo s p[0] e
def mz0 (s:Zx):MacroM Zx:=do
 let p:=s[1][0][0][0]
 unless p.isOfKind `Lean.Parser.Tactic.rcasesPat.tuple&&s[2].isNone&&s[1][0][0].getNumArgs==1 do Macro.throwUnsupported
 let e:=s[3][1][0]
 let ps:=p[1].getSepArgs
 let n:=ps.size
 if n < 2 then Macro.throwUnsupported
 let xs:=ps.mapIdx fun i p=>mzy p i
 let h:=mkIdent `h
 let t:=mkNullNode (ps.mapIdx fun i p=>mzw s p xs[i]!)
 let a:=(Array.range n).map fun k=>mkNullNode #[if k==0 then mzl "an" n e xs else if k + 1==n then mzl "ex" k e xs else mkNullNode #[mzl "ex" k e ((xs.extract 0 k).push h),mzl "an" (n - k) h (xs.extract k n)],t]
 return mzf (a.push (mkNullNode #[mzl "an" 2 e #[xs[0]!,h],mzw s ps[0]! xs[0]!,mzo s (.node .none `Lean.Parser.Tactic.rcasesPatMed #[mkNullNode #[p.setArg 1 (mkNullNode (p[1].getArgs.extract 2 p[1].getNumArgs))]]) h]))
def mz4 (s:Zx):Zx:=mzf #[mze "noS" #[s[1]],mze "noB" #[s[1]],mkNullNode #[mzn "cases" #[mkNullNode #[mzk "elimTarget" #[mkNullNode,s[1]]],mkNullNode,mkNullNode],mzn "done" #[]]]
def mz5 (s:Zx):Zx:=mzn "refine" #[mzc_ mzh s[1]]
def mz1 (a r u:Zx):Zx:=
 let f l as:=mzs l fun s=>mze s as
 mzf (f "om1 om2 om4 om3" #[a,r]++f "om5 Nat.le_of_ble_eq_true" #[r]++f "om6" #[a,r]++f "om7 om8" #[r]++f "om9 omA omB omC omD omE omP omG omH omI omN omO omQ omR" #[a,r]++f "omF omK" #[a,a,r]++f "Int.not_lt.mpr oa2 oa3 oa7 oa8 oa9 oc1 oc2 oc3 oc4 oc5" #[a]++f "oc6 od2" #[a,r]++f "od1 od4 od5" #[a,a]++f "od3" #[a]++f "Int.ofNat_lt Int.ofNat_lt.symm" #[]++f "Nat.le_of_lt_succ" #[a]|>.push u)
def mz6:Zx:=mz1 (mzj (mzk "withReducible" #[mzv "with_reducible",mzq (mzn "assumption" #[])])) (mzj mzr_) (mzf ((mzs "Nat.le_add_right Nat.add_sub_cancel_left" fun s=>mze s #[mze_,mze_]).push (mzx_ "lia")))
def mz2 (e:Zx) (c:Array Zx):Zx:=
 let r:=mkIdent `rfl
 mzf (#[mze "noS" #[e],mze "noB" #[e]]++(mzs "Option.ctorIdx Nat.succ" fun s=>mze "ncf" #[mkIdent s.toName,e,r])++(mzs "Role PV D PySem.Value Bool Fl MO TO" fun s=>mze (s++".noConfusion") #[e])++((Array.range 3).map fun k=>
 let xs:=mzs (("h1 h2 h3".take (3 * k + 2)).toString) fun s=>mkIdent (.mkSimple s)
 mkNullNode #[mzl "pe" (k + 1) e xs,mzn "subst" #[mkNullNode xs]])++c)
def mz7 (s:Zx):Zx:=
 let e:=s[1][0][1]
 if s[3].isNone then mz2 e (if e.isIdent then #[mzn "rcases" #[s[1],mkNullNode #[mzv "with",mzk "rcasesPatLo" #[mzk "rcasesPatMed" #[mkNullNode #[mzk "rcasesPat.tuple" #[mzv "⟨",mkNullNode,mzv "⟩"]]],mkNullNode]]]] else #[])
 else mzf #[mzn "induction" #[s[1],mkNullNode,mkNullNode,s[3]],mzn "fail" #[mkNullNode]]
def mz7_ (s:Zx):MacroM Zx:=if s[1].getNumArgs != 1||!s[1][0][0].isNone||!s[2].isNone then Macro.throwUnsupported else return mz7 s
def mz3 (s:Zx):MacroM Zx:=do
 if !s[3].isNone||(s.find? (·.isOfKind `Lean.Parser.Term.syntheticHole)).isSome then Macro.throwUnsupported
 let t:=s[2][1].getSepArgs.map fun r=>mzf #[mzr (if r[0].getNumArgs==0 then "rwE" else "rwS") #[r[1]],(s.setKind `Lean.Parser.Tactic.rewriteSeq).setArg 0 (.atom .none "rewrite")|>.setArg 2 (s[2].setArg 1 (mkNullNode #[r]))]
 return mkNullNode (t.push (mzk "withReducible" #[mzv "with_reducible",mzq (mzt mzr_)]))
def mzu (u e:Zx):Zx:=mzn "refine" #[.node .none `Lean.Parser.Term.app #[u,mkNullNode #[e]]]
def mzc (u b r x y:Zx) (xs:Array Zx):Zx:=
 let p (x:Zx):=x[0].isNone&&x[1].isNone
 let f (as:Array Zx):=mzu u (mza "h" as)
 mzf ((xs.filter fun x=>!p x).map (fun x=>f (if x[0].isNone then #[b,x[2]] else #[x[2]]))++#[f #[r],f #[b,x],f #[b,y]]++(xs.filter p).map (fun x=>f #[b,x[2]])++mzs "true false" fun s=>f #[mkIdent s.toName,r])
def mzb (v w q:Zx):Zx:=
 let h:=mkIdent `h
 let c:=mzn "clear" #[mkNullNode #[h]]
 mkNullNode #[mzi #[h],mzf #[mzu v h,mzu w h],c,mzi #[h],q,c]
def mzd (a:Array Zx) (s:String):Zx:=mkNullNode #[mkNullNode a,mkNullNode,mkIdent s.toName]
def mz8 (s:Zx):MacroM Zx:=do
 let o:=mze_
 let r (x y:Zx):=mzg "arrow" #[x,mzv "→",y]
 let e (x y:Zx):Zx:=.node .none `«term_=_» #[x,mzv "=",y]
 let l:=mkIdent `rfl
 let q:=mzc (mzc_ mzh (r o o)) o l (mzc_ l (e o (mza "some" #[o]))) (mzc_ l (e (mza "itClose" #[o,o]) o)) (s[4][1].getSepArgs++mzs "y.sm y.n0 x.sm x.n0" (mzd #[mzv "↑"])++mzs "I w.ih w.i0 w.i1 T.i0 T.i1 y.at_ x.at_ R.iI ih" (mzd #[]))
 let b:=mzb (mzc_ mzh (r (r (e o (mkIdent `true)) o) o)) (mzc_ mzh (r (mzg "forall" #[mzv "∀",mkNullNode #[mkIdent `x],mkNullNode,mzv ",",r (e o o) o]) o)) q
 let x:=mkIdent `chain
 return mkNullNode #[mzf (mzs "runS exsS exS evS tsS" fun s=>mzr s #[]),mzk "tacticRepeat_" #[mzv "repeat",mzq (mzf #[b,mkNullNode #[mzi #[mkIdent `h],mzn "exact" #[mkIdent `h]]])],mzt (mkNullNode #[mzi #[x],← `(tactic| conv at $x:ident=>whnf)])]
def mz9 (s:Zx):MacroM Zx:=do
 if s.getPos?.isNone then Macro.throwUnsupported
 let m (i:Nat) (k:String):Zx:=s.setArg 0 (s[0].setArg i (mkNullNode #[.node .none ("Lean.Parser.Command."++k).toName #[mzv k]]))
 let k:=s[1].getKind
 let t:=if k== `Lean.Parser.Command.theorem then m 2 "private" else if s[0][4].isNone&&(k== `Lean.Parser.Command.definition||k== `Lean.Parser.Command.abbrev) then m 4 "noncomputable" else s
 return t.rewriteBottomUp (·.setInfo .none)
def mzx (e:Zx):Zx:=mzf ((mzs "someE3 someE2 someE1" fun f=>mzr f #[e]).push (mz2 e #[]))
def mzp (x:Zx):Zx:=mza "wpAny" (#[mza "model" #[mkIdent `prog,mkIdent `w],mkIdent `A,x[0]]++x[1].getArgs)
end
local macro_rules (kind := Lean.Parser.Command.declaration) | s => mz9 s

theorem bx:type_of% @Bool.and_eq_true:=@Bool.and_eq_true
theorem bq:type_of% @List.getElem?_set_ne:=@List.getElem?_set_ne
theorem bf:type_of% @List.all_eq_true:=@List.all_eq_true
theorem gf:type_of% @List.getElem?_eq_some_iff:=@List.getElem?_eq_some_iff
theorem dz:type_of% @List.getElem?_set:=@List.getElem?_set
theorem dS:type_of% @List.length_append:=@List.length_append
theorem fw:type_of% @List.length_cons:=@List.length_cons
theorem eI:type_of% @List.append_assoc:=@List.append_assoc
theorem dJ:type_of% @List.mem_cons:=@List.mem_cons
theorem gq:type_of% @List.length_set:=@List.length_set
theorem ej:type_of% @List.append_nil:=@List.append_nil
theorem mM:type_of% @List.getElem?_append_left:=@List.getElem?_append_left
theorem kg:type_of% @List.map_cons:=@List.map_cons
theorem mN:type_of% @List.getElem?_eq_getElem:=@List.getElem?_eq_getElem
theorem kh:type_of% @Nat.eq_of_beq_eq_true:=@Nat.eq_of_beq_eq_true
theorem qN:type_of% @List.getElem?_cons_succ:=@List.getElem?_cons_succ
theorem eT:type_of% @List.length_map:=@List.length_map
theorem dA:type_of% @Nat.le_refl:=@Nat.le_refl
theorem nZ:type_of% @Option.some.injEq:=@Option.some.injEq
theorem ET:type_of% @Option.map_eq_some_iff:=@Option.map_eq_some_iff
theorem eJ:type_of% @Nat.zero_le:=@Nat.zero_le
theorem mO:type_of% @Bool.or_eq_true:=@Bool.or_eq_true
theorem jd:type_of% @Bool.eq_iff_iff:=@Bool.eq_iff_iff
theorem pQ:type_of% @List.getElem?_set_self:=@List.getElem?_set_self
theorem pR:type_of% @List.getElem?_map:=@List.getElem?_map
theorem lK:type_of% @List.prefix_refl:=@List.prefix_refl
theorem qO:type_of% @List.mem_of_getElem?:=@List.mem_of_getElem?
theorem jH:type_of% @List.contains_iff_mem:=@List.contains_iff_mem
theorem n_:type_of% @List.nodup_cons:=@List.nodup_cons
theorem pV:type_of% @List.mem_append:=@List.mem_append
theorem yw:type_of% @List.getElem?_append_right:=@List.getElem?_append_right
theorem oe:type_of% @List.lookup_cons:=@List.lookup_cons
theorem yx:type_of% @Option.isSome_iff_exists:=@Option.isSome_iff_exists
theorem Bl:type_of% @List.length_eq_zero_iff:=@List.length_eq_zero_iff
theorem yz:type_of% @List.not_mem_nil:=@List.not_mem_nil
theorem sS:type_of% @List.zip_cons_cons:=@List.zip_cons_cons
theorem we:type_of% @Bool.false_eq_true:=@Bool.false_eq_true
theorem jI:type_of% @List.mem_singleton:=@List.mem_singleton
theorem dK:type_of% @decide_eq_true_iff:=@decide_eq_true_iff
theorem EU:type_of% @decide_eq_false_iff_not:=@decide_eq_false_iff_not
theorem wg:type_of% @Int.toNat_of_nonneg:=@Int.toNat_of_nonneg
theorem sT:type_of% @Int.natCast_nonneg:=@Int.natCast_nonneg
theorem cj:type_of% @eq_of_beq:=@eq_of_beq
theorem fg:type_of% @beq_iff_eq:=@beq_iff_eq
theorem fh:type_of% @Option.some.inj:=@Option.some.inj
theorem pW:type_of% @Nat.lt_of_lt_of_le:=@Nat.lt_of_lt_of_le
theorem qQ:type_of% @Nat.ble_eq_true_of_le:=@Nat.ble_eq_true_of_le
theorem g5:type_of% @Nat.le_of_ble_eq_true:=@Nat.le_of_ble_eq_true
theorem wh:type_of% @List.findIdx?_cons:=@List.findIdx?_cons
theorem ed:type_of% @decide_eq_true:=@decide_eq_true
theorem dU:type_of% @decide_eq_false:=@decide_eq_false
theorem Y5:type_of% @Int.natCast_add:=@Int.natCast_add
theorem aW:type_of% @Nat.le_trans:=@Nat.le_trans
theorem eU:type_of% @Nat.add_le_add_left:=@Nat.add_le_add_left
theorem jJ:type_of% @Bool.and_eq_true_iff:=@Bool.and_eq_true_iff
theorem hZ:type_of% @Nat.add_le_add:=@Nat.add_le_add
theorem sU:type_of% @Nat.lt_of_le_of_lt:=@Nat.lt_of_le_of_lt
theorem pX:type_of% @Int.ofNat_lt:=@Int.ofNat_lt
theorem wi:type_of% @Nat.add_le_add_right:=@Nat.add_le_add_right
theorem oh:type_of% @Nat.succ_le_succ:=@Nat.succ_le_succ
theorem lM:type_of% @Nat.le_of_eq:=@Nat.le_of_eq
theorem qR:type_of% @Nat.le_add_right:=@Nat.le_add_right
theorem uA:type_of% @List.any_eq_true:=@List.any_eq_true
theorem h_:type_of% @PySem.Heap.get?_push_of_some:=@PySem.Heap.get?_push_of_some
theorem jK:type_of% @PySem.Heap.get?_push_size:=@PySem.Heap.get?_push_size
theorem mQ:type_of% @Nat.mul_le_mul_right:=@Nat.mul_le_mul_right
theorem uB:type_of% @Nat.add_right_comm:=@Nat.add_right_comm
theorem EV:type_of% @Nat.le_add_left:=@Nat.le_add_left
theorem pY:type_of% @Bool.not_eq_true':=@Bool.not_eq_true'
theorem sV:type_of% @List.nodup_nil:=@List.nodup_nil
theorem uC:type_of% @List.mem_filter:=@List.mem_filter
theorem uD:type_of% @List.map_append:=@List.map_append
theorem qS:type_of% @List.mem_map:=@List.mem_map
theorem sW:type_of% @Nat.zero_lt_succ:=@Nat.zero_lt_succ
theorem gA:type_of% @Ne.symm:=@Ne.symm
theorem qT:type_of% @Nat.le_succ:=@Nat.le_succ
theorem yC:type_of% @List.pairwise_cons:=@List.pairwise_cons
theorem wj:type_of% @List.mem_range:=@List.mem_range
theorem sX:type_of% @Nat.ne_of_lt:=@Nat.ne_of_lt
theorem yD:type_of% @Nat.lt_succ_self:=@Nat.lt_succ_self
theorem wk:type_of% @Bool.and_true:=@Bool.and_true
theorem uE:type_of% @List.getElem_cons_zero:=@List.getElem_cons_zero
universe u1 u2 u3 u4 u5 u6
theorem ex1{α:Sort u1}{A:α->Prop}{P:Prop}(h:∃x,A x)(k:∀x,A x->P):P:=h.elim k
theorem ex2{α:Sort u1}{β:Sort u2}{A:α->β->Prop}{P:Prop}(h:∃x y,A x y)(k:∀x y,A x y->P):P:=h.elim λx h=>h.elim (k x)
theorem ex3{α:Sort u1}{β:Sort u2}{γ:Sort u3}{A:α->β->γ->Prop}{P:Prop}(h:∃x y z,A x y z)(k:∀x y z,A x y z->P):P:=h.elim λx h=>ex2 h (k x)
theorem ex4{α:Sort u1}{β:Sort u2}{γ:Sort u3}{δ:Sort u4}{A:α->β->γ->δ->Prop}{P:Prop}(h:∃x y z w,A x y z w)(k:∀x y z w,A x y z w->P):P:=h.elim λx h=>ex3 h (k x)
theorem an2{A B P:Prop}(h:A/\B)(k:A->B->P):P:=k h.1 h.2
theorem an3{A B C P:Prop}(h:A/\B/\C)(k:A->B->C->P):P:=k h.1 h.2.1 h.2.2
theorem an4{A B C D P:Prop}(h:A/\B/\C/\D)(k:A->B->C->D->P):P:=k h.1 h.2.1 h.2.2.1 h.2.2.2
theorem an5{A B C D E P:Prop}(h:A/\B/\C/\D/\E)(k:A->B->C->D->E->P):P:=k h.1 h.2.1 h.2.2.1 h.2.2.2.1 h.2.2.2.2
theorem an6{A B C D E F P:Prop}(h:A/\B/\C/\D/\E/\F)(k:A->B->C->D->E->F->P):P:=k h.1 h.2.1 h.2.2.1 h.2.2.2.1 h.2.2.2.2.1 h.2.2.2.2.2
theorem an7{A B C D E F G P:Prop}(h:A/\B/\C/\D/\E/\F/\G)(k:A->B->C->D->E->F->G->P):P:=k h.1 h.2.1 h.2.2.1 h.2.2.2.1 h.2.2.2.2.1 h.2.2.2.2.2.1 h.2.2.2.2.2.2
@[elab_as_elim] theorem rwE{α:Sort u1}{a b:α}{P:α->Prop}(h:a=b)(x:P b):P a:=h▸x
@[elab_as_elim] theorem rwS{α:Sort u1}{a b:α}{P:α->Prop}(h:a=b)(x:P a):P b:=h▸x
theorem pe1{α:Type u1}{P:Prop}{a c:α}(q:some a=some c)(h:c=a->P):P:=h (fh q).symm
theorem pe2{α:Type u1}{β:Type u2}{P:Prop}{a c:α}{b d:β}(q:some (a,b)=some (c,d))(h:c=a->d=b->P):P:=h (congrArg (·.1) (fh q)).symm (congrArg (·.2) (fh q)).symm
theorem pe3{α:Type u1}{β:Type u2}{γ:Type u3}{P:Prop}{a c:α}{b d:β}{e f:γ}(q:some (a,b,e)=some (c,d,f))(h:c=a->d=b->f=e->P):P:=h (congrArg (·.1) (fh q)).symm (congrArg (·.2.1) (fh q)).symm (congrArg (·.2.2) (fh q)).symm
theorem ncf{α:Type u1}{P:Prop}{a b:α}(f:α->Nat)(e:a=b)(h:Nat.beq (f a) (f b)=false):P:=absurd (congrArg f e) (Nat.ne_of_beq_eq_false h)
@[elab_as_elim] theorem Y6{α:Type u1}{β:Type u2}{γ:Type u3}{a c:α}{b d:β}{e f:γ}{P:α->β->γ->Prop}(q:(a,b,e)=(c,d,f))(h:P c d f):P a b e:=Eq.rec (motive:=λp _=>P p.1 p.2.1 p.2.2) h q.symm
theorem ifF{c:Bool}{A B:Prop}(e:c=false)(h:B):if c=true then A else B:=@Eq.rec _ false (λc _=>if c=true then A else B) h _ e.symm
theorem ifT{c:Bool}{A B:Prop}(e:c=true)(h:A):if c=true then A else B:=@Eq.rec _ true (λc _=>if c=true then A else B) h _ e.symm
theorem goQ{C:Prop}(k:∀G:Prop,(C->G)->G):C:=k C id
section
variable{a b c i j k x y z:Nat}
theorem om1(h:a<=x)(q:Nat.ble x y=true):a<=y:=aW h (g5 q)
theorem om2(h:x<=a)(q:Nat.ble y x=true):y<=a:=aW (g5 q) h
theorem om3(h:a+j<=b)(q:Nat.ble i j=true):a+i<=b:=aW (eU (g5 q) a) h
theorem om4(h:a+j<b)(q:Nat.ble i j=true):a+i<b:=sU (eU (g5 q) a) h
theorem om5(q:Nat.beq i j=false):¬(a+i=a+j):=λh=>by rw[Nat.add_left_cancel h,Nat.beq_refl]at q;cases q
theorem om6(h:a=x)(q:Nat.ble y x=true):y<=a:=h▸g5 q
theorem om7(q:Nat.beq i 0=false):¬(a+i=a):=om5 (j:=0) q
theorem om8(q:Nat.beq i 0=false):¬(a=a+i):=λh=>om7 q h.symm
theorem om9(h:x<=a)(q:Nat.ble x y=false):¬(a=y):=λe=>by rw[qQ (e▸h)]at q;cases q
theorem omA(h:x<=a)(q:Nat.ble x y=false):¬(y=a):=λe=>om9 h q e.symm
theorem omB(h:x<=a)(q:Nat.ble y x=true):a=a-y+y:=(Nat.sub_add_cancel (om2 h q)).symm
theorem omC(h:x<=a)(q:Nat.ble y x=true):a-y+y=a:=Nat.sub_add_cancel (om2 h q)
theorem omD(h:x<=a+j)(q:Nat.ble (y+j) (x+i)=true):y<=a+i:=Nat.le_of_add_le_add_right (aW (g5 q) (uB a j i▸wi h i))
theorem omE(h:x<=a+j)(q:Nat.ble (y+j) x=true):y<=a:=omD (i:=0) h q
theorem omF(h:a<=x)(g:b<=y)(q:Nat.ble (x+y) z=true):a+b<=z:=aW (hZ h g) (g5 q)
theorem omG(h:a<=x)(q:Nat.ble (x+i) y=true):a+i<=y:=omF h (dA _) q
theorem omH(h:a=b+j\/b+k<=a)(q:(Nat.beq i j||Nat.ble k i)=false):¬(a=b+i):=λe=>by
 subst e;rcases h with h|h
 ·rw[Nat.add_left_cancel h,Nat.beq_refl]at q;cases q
 ·rw[qQ (Nat.le_of_add_le_add_left h),Bool.or_true]at q;cases q
theorem omI(h:a=b+j\/b+k<=a)(q:(Nat.beq i j||Nat.ble k i)=false):¬(b+i=a):=λe=>omH h q e.symm
theorem omK(h:a=b+i)(g:x<=b)(q:Nat.ble y (x+i)=true):y<=a:=h▸aW (g5 q) (wi g i)
theorem omN(h:a<b\/a=b+j)(q:Nat.beq i j=false):¬(a=b+i):=λe=>by
 subst e;rcases h with h|h
 ·exact Nat.not_lt_of_le (qR b i) h
 ·rw[Nat.add_left_cancel h,Nat.beq_refl]at q;cases q
theorem omO(h:a<b\/a=b+j)(q:Nat.beq i j=false):¬(b+i=a):=λe=>omN h q e.symm
theorem omP(h:a+i<=x)(q:Nat.ble x (y+i)=true):a<=y:=Nat.le_of_add_le_add_right (aW h (g5 q))
end
theorem omQ{a x y z:Int}(h:a=x\/y<=a)(q:(decide (z=x)||decide (y<=z))=false):¬(a=z):=λe=>by
 subst e;rw[Bool.or_eq_false_iff]at q;rcases h with h|h
 ·exact of_decide_eq_false q.1 h
 ·exact of_decide_eq_false q.2 h
theorem omR{a x z:Int}(h:x<=a)(q:decide (x<=z)=false):¬(a=z):=λe=>of_decide_eq_false q (e▸h)
theorem oa2{x:Nat}(h:x<2):x=0\/x=1:=(by decide:∀x<2,x=0\/x=1) x h
theorem oa3{x:Nat}(h:x<3):x=0\/x=1\/x=2:=(by decide:∀x<3,x=0\/x=1\/x=2) x h
theorem oa7{x:Nat}(h:x<7):x=0\/x=1\/x=2\/x=3\/x=4\/x=5\/x=6:=(by decide:∀x<7,x=0\/x=1\/x=2\/x=3\/x=4\/x=5\/x=6) x h
theorem oa8{x:Nat}(h:x<8):x=0\/x=1\/x=2\/x=3\/x=4\/x=5\/x=6\/x=7:=(by decide:∀x<8,x=0\/x=1\/x=2\/x=3\/x=4\/x=5\/x=6\/x=7) x h
theorem oa9{x:Nat}(h:x<9):x=0\/x=1\/x=2\/x=3\/x=4\/x=5\/x=6\/x=7\/x=8:=(by decide:∀x<9,x=0\/x=1\/x=2\/x=3\/x=4\/x=5\/x=6\/x=7\/x=8) x h
theorem ob1{x y:Int}(h:x.toNat=y.toNat)(a:0<=x)(b:0<=y):x=y:=by rw[<-wg a,<-wg b,h]
theorem ob2{a m n k:Nat}(h:a+m<=k)(g:n<=m):a+n<=k:=aW (eU g a) h
theorem ob4{n g x:Nat}(h:(n+1)*g<=5*g)(q:x<=n*g):x<=4*g:=aW q (Nat.le_of_add_le_add_right (Nat.succ_mul n g▸Nat.succ_mul 4 g▸h))
theorem ob3{n g x y:Nat}(h:(n+1)*g<=5*g)(q:x<=y+n*g):x<=y+4*g:=aW q (eU (ob4 h (dA _)) y)
theorem ob5{n g x y:Nat}(h:(n+1)*g<=5*g)(q:x<=y+n*g):x<=y+5*g:=aW (ob3 h q) (eU (mQ g (by decide)) y)
theorem ob6{n k:Nat}{x:Int}(h:n<=k)(g:x.toNat<n)(z:0<=x)(e:Nat.ble k 900000=true):x<900000:=Int.lt_of_lt_of_le (Int.lt_of_lt_of_le ((Int.toNat_lt z).mp g) (Int.ofNat_le.mpr h)) (Int.ofNat_le.mpr (g5 e))
theorem oc1{a b:Nat}(h:a+1<=b):b-a=b-(a+1)+1:=(Nat.sub_add_cancel (Nat.sub_pos_of_lt h)).symm
theorem oc2{a b i:Nat}(h:a+i<b):a<b:=sU (qR _ _) h
theorem oc3{a b i:Nat}(h:a=b+i\/b+8<=a):b<=a:=h.elim (λh=>h▸qR _ _) λh=>aW (qR _ _) h
theorem Y7{a b:Nat}(h:a=b+4\/b+8<=a):b+1<=a:=h.elim (λh=>h▸qR (b+1) 3) λh=>aW (qR (b+1) 7) h
theorem oc4{a b:Nat}(h:a=b+4\/b+8<=a):¬b=a:=λe=>absurd (Y7 h) (e▸Nat.not_succ_le_self b)
theorem oc5{x:Int}(h:x=5\/26<=x):x=5\/16<=x:=h.imp_right λh=>Int.le_trans (by decide) h
theorem oc6{k m j i x:Nat}(h:x<=m+i)(q:(Nat.ble (k+i) x&&Nat.ble k j)=true):m-k+j=m+(j-k):=by rw[bx]at q;exact(Nat.sub_add_comm (Nat.le_of_add_le_add_right (aW (g5 q.1) h))).symm.trans (Nat.add_sub_assoc (g5 q.2) m)
theorem oc7{s k:Nat}(h:s<=3)(g:41<=k):k-(8*(s+1)+9)+8*(s+1)+8+1=k:=
 (Nat.add_assoc _ (8*(s+1)) 9).trans (Nat.sub_add_cancel (aW (wi (Nat.mul_le_mul_left 8 (oh h)) 9) g))
theorem oc8{s k:Nat}(h:s<=2)(g:41<=k+5):k+4-(8*(s+1)+9)+8*(s+1)+8+1=k+4:=
 (Nat.add_assoc _ (8*(s+1)) 9).trans (Nat.sub_add_cancel (aW (wi (Nat.mul_le_mul_left 8 (oh h)) 9) (aW (show 8*(2+1)+9<=40 by decide) (Nat.le_of_succ_le_succ g))))
theorem od1{a b c k m:Nat}(h:b+(c+m)<=k)(g:a<=b+m):a+c<=k:=aW (wi g c) (aW (lM ((Nat.add_assoc b m c).trans (congrArg (b+·) (Nat.add_comm m c)))) h)
theorem od2{a x k m i j:Nat}(h:a+x+k<m)(q:Nat.ble (i+j) k=true):a+i+x+j<m:=sU (aW (lM ((congrArg (·+j) (uB a i x)).trans (Nat.add_assoc (a+x) i j))) (eU (g5 q) (a+x))) h
theorem od3{a b c:Nat}(h:a+(b+1)<=c):a+1+b<=c:=aW (lM (uB a 1 b)) h
theorem od4{a b r:Nat}(h:a=b+4\/b+8<=a)(g:r<b\/r=b+1):¬a=r:=λe=>by have h4:b+2<=r:=e▸h.elim (λh=>h▸qR (b+2) 2) λh=>aW (qR (b+2) 6) h;exact g.elim (λg=>absurd (aW (qR b 2) h4) (Nat.not_le_of_lt g)) λg=>Nat.not_succ_le_self (b+1) (aW h4 (lM g))
theorem XS{a k m:Nat}(q:k<=50)(h:a+100<m):a+1+k<m:=sU (Nat.add_assoc a 1 k▸eU (aW (eU q 1) (by decide)) a) h
theorem od5{a b c:Nat}(h:a=b+1-c)(g:c<b):b+1-(c+1)<a:=h▸Nat.sub_lt_sub_left (Nat.lt_succ_of_lt g) (yD c)
local macro_rules (kind := Lean.Parser.Tactic.obtain) | s=>mz0 s
local macro_rules (kind := Lean.Parser.Tactic.rwSeq) | s=>mz3 s
local macro_rules (kind := Lean.Parser.Tactic.change) | s=>return mz4 s
local macro_rules (kind := Lean.Parser.Tactic.show) | s=>return mz5 s
local macro_rules (kind := Lean.Parser.Tactic.omega) | s=>return mz6
local macro_rules (kind := Lean.Parser.Tactic.cases) | s=>mz7_ s
local macro_rules (kind := Lean.Parser.Tactic.dsimpAutoUnfold) | s=>mz8 s
local macro_rules | `(tactic| exists $q:term)=>return mzx q
local macro_rules (kind := «term~~~_») | s=>return mzp s[1]
local macro_rules (kind := «term∅») | s => return mzj (mzx_ "decide")

section
open PySem PySem.W PyProof.Rows PySem.Calls
abbrev P0:Program:=Challenge.pw_qd0089_01
def qU:Env:={scope:=P0.main.scope,locals:=mainNs,globals:=mainNs,cells:=[],code:= .ref 13,frame:=some 14}
def bE:List Stmt:=behindTheImports P0
def cE:Code:= .body bE qU
def Mv:List Stmt->Nat->Stmt
 |[],_=> .Pass default
 |s::_,0=>s
 |_::r,n+1=>Mv r n
def st(i:Nat):Stmt:=Mv P0.main.body i
def clB:Stmt->List Stmt
 | .ClassDef _ _ _ b ..=>b
 |_=>[]
def cm(i j:Nat):Stmt:=Mv (clB (st i)) j
def wm(a n:Nat):List Stmt:=(P0.main.body.drop a).take n
abbrev vN:Value:= .none
abbrev vB (b:Bool):Value:= .bool b
abbrev vI (i:Int) (t:Nat):Value:= .int i t
abbrev vS (s:Str) (t:Nat):Value:= .str s t
abbrev vT (s:String):Value:= .type s
abbrev vX (s:String):Value:= .builtin s
abbrev vR (a:Nat):Value:= .ref a
abbrev en (P:Params) (x:Str) (t:Nat) (v:Value):DictEntry:=⟨PyData.keyHash P x,.str x t,v⟩
abbrev N (o:Obj) (l r:BT):BT:= .node o l r
abbrev L:BT:= .nil
def fnD(s:Stmt)(qual:Str)(d k doc pm:Value)(ann:Option Addr)(code ct:Value)(g bi _n:Nat):FuncData:=match s with
 | .FunctionDef name args body _ _ _ scope _ _ _=>{name:=name,qualname:=qual,params:=args,body:= .stmts body,scope:=scope,globals:=g,closure:=[],defaults:=d,kwdefaults:=k,doc:=doc,pyModule:=pm,annotations:=ann,code:=code,closureTuple:=ct,builtins:=bi}
 |_=>default
def tF(name:Str)(bases mro:List Value)(ns:Addr)(q:Str)(hd:Bool)(sl:List Str)(sub:List Value)(ab:Bool)(co:Option Bool)(del:Bool):ClassData:=
 {name:=name,bases:=bases,mro:=mro,ns:=ns,qualname:=q,hasDict:=hd,slotNames:=sl,subclasses:=sub,abstract:=ab,collection:=co,hasDel:=del}
abbrev qP:Pos:=⟨0,0,0,0⟩
abbrev B0:List Frame:=[topFrame qP]
abbrev yE:Option Value:=some (.ref 6)
abbrev lf:Life:={}
abbrev dr:Drawn:={}
abbrev SR:=PySem.W.Fast.tw10110043849684766642
abbrev TT:=PySem.W.Fast.tw14364793385576792824
abbrev b0:=PySem.W.boot_o_0
abbrev b1:=PySem.W.boot_o_1
abbrev b2:=PySem.W.boot_o_2
abbrev b3:=PySem.W.boot_o_3
abbrev b4:=PySem.W.boot_o_4
abbrev b5:=PySem.W.boot_o_5
abbrev b6:=PySem.W.boot_o_6
abbrev b7:=PySem.W.boot_o_7
abbrev b8:=PySem.W.boot_o_8
abbrev b9:=PySem.W.boot_o_9
abbrev b10:=PySem.W.boot_o_10
abbrev k0:String:=PySem.W.SL.s2766695959194262286x5
abbrev sO:=Str.ofString
abbrev n0:=sO "<module>"
abbrev n1:=sO "/claim/cut.py"
abbrev k1:String:=PySem.W.SL.s5856160107412720595x4
abbrev k2:String:=PySem.W.SL.s658472552662922059x5
abbrev n2:=sO "__main__"
abbrev n3:=sO "type.__subclasses__.Exception.0"
abbrev n4:=sO "type.__subclasses__.Exception.n"
abbrev n5:=sO "__name__"
abbrev n6:=sO "kindkeep.diags"
abbrev n7:=sO "__doc__"
abbrev n8:=sO "__package__"
abbrev n9:=sO "__loader__"
abbrev k3:String:=PySem.W.SL.s7097527257260152453x26
abbrev n10:=sO "__spec__"
abbrev zU:=sO "__annotations__"
abbrev Y8:=sO "__builtins__"
abbrev SJ:=sO "__file__"
abbrev n14:=sO "__cached__"
abbrev RO:=sO "_wall"
abbrev XT:=sO "U_ANY"
abbrev n17:=sO "U_PROP"
abbrev Y9:=sO "U_READONLY"
abbrev n19:=sO "U_INDEX"
abbrev n20:=sO "U_ENUM"
abbrev n21:=sO "U_OPTION"
abbrev n22:=sO "U_VAR"
abbrev Bm:=sO "KeepError"
abbrev Ih:=sO "TooDeep"
abbrev k4:String:=PySem.W.SL.s14018661285674007319x4
abbrev n25:=sO "k"
abbrev k5:String:=PySem.W.SL.s7174869446012820540x8
abbrev k6:String:=PySem.W.SL.s5946037652744460706x9
abbrev k7:String:=PySem.W.SL.s10062305145149207511x16
abbrev k8:String:=PySem.W.SL.s17162191345867700912x4
abbrev k9:String:=PySem.W.SL.s11030030927630378310x26
abbrev pZ:=sO "__module__"
abbrev EW:=sO "__qualname__"
abbrev sH:=sO "__firstlineno__"
abbrev qu:=sO "__init__"
abbrev sJ:=sO "__static_attributes__"
abbrev Y_:=sO ""
abbrev ir:=sO "self"
abbrev Mw:=sO "text"
abbrev Y':=sO "KeepError.__init__"
abbrev RQ:=sO "number"
abbrev EF:=sO "__weakref__"
abbrev XU:String:=PySem.W.SL.s4278001404047624695x13
abbrev lh:String:=PySem.W.SL.s2742458400755230247x6
abbrev XW:String:=PySem.W.SL.s5160863994218179198x17
abbrev RV:String:=PySem.W.SL.s10220274742760427390x26
abbrev EX:String:=PySem.W.SL.s14755015743595814543x17
abbrev EY:String:=PySem.W.SL.s4290257624100764138x5
abbrev wo:String:=PySem.W.SL.s4860613602091757760x24
abbrev Za:=sO "TooDeep.__init__"
abbrev n38:=sO "kindkeep.types"
abbrev Ii:=sO "HostFault"
abbrev Ij:=sO "Notes"
abbrev n41:=sO "Y_KEY"
abbrev n42:=sO "Y_BOOL"
abbrev n43:=sO "Y_STR"
abbrev n44:=sO "Y_NUM"
abbrev n45:=sO "Y_ENUM"
abbrev n46:=sO "Y_UNION"
abbrev n47:=sO "Y_INTER"
abbrev n48:=sO "Y_OBJ"
abbrev Zb:=sO "HostFault.__init__"
abbrev RW:=sO "put"
abbrev XX:=sO "codes"
abbrev XY:=sO "clean"
abbrev Zc:=sO "Notes.__init__"
abbrev Zd:=sO "code"
abbrev XZ:=sO "at"
abbrev Ze:=sO "Notes.put"
abbrev Zf:=sO "found"
abbrev Zg:=sO "Notes.codes"
abbrev Zh:=sO "Notes.clean"
abbrev Mx:=sO "rows"
abbrev HZ:=sO "__dict__"
abbrev yr:String:=PySem.W.SL.s11443829558043349243x14
abbrev SK:String:=PySem.W.SL.s6511155373996960695x17
abbrev SM:String:=PySem.W.SL.s12411053484034534018x21
abbrev n62:=sO "Y_REF"
abbrev n63:=sO "Y_PARAM"
abbrev n64:=sO "Y_ARRAY"
abbrev n65:=sO "Y_TUPLE"
abbrev n66:=sO "Y_SIG"
abbrev n67:=sO "Y_KEYOF"
abbrev n68:=sO "Y_INDEX"
abbrev n69:=sO "Y_COND"
abbrev n70:=sO "Y_MAPPED"
abbrev n71:=sO "Y_TPL"
abbrev n72:=sO "Y_ALIAS"
abbrev n73:=sO "ANY"
abbrev n74:=sO "UNKNOWN"
abbrev n75:=sO "NEVER"
abbrev n76:=sO "VOID"
abbrev n77:=sO "UNDEF"
abbrev n78:=sO "NULLT"
abbrev n79:=sO "STRING"
abbrev n80:=sO "NUMBER"
abbrev n81:=sO "FALSE_T"
abbrev n82:=sO "TRUE_T"
abbrev n83:=sO "OBJECTT"
abbrev n84:=sO "EMPTY"
abbrev n85:=sO "ERR"
abbrev n86:=sO "FRESH_F"
abbrev n87:=sO "FRESH_T"
abbrev n88:=sO "P_READONLY"
abbrev n89:=sO "P_PRIVATE"
abbrev n90:=sO "P_PROTECTED"
abbrev n91:=sO "E_NEED"
abbrev n92:=sO "E_OPT"
abbrev n93:=sO "E_REST"
abbrev n94:=sO "E_SPREAD"
abbrev n95:=sO "MAX_UNION"
abbrev n96:=sO "FIRST_ROWS"
abbrev n97:=sO "LITERAL_ROWS"
abbrev n98:=sO "MARKED_ROWS"
abbrev n99:=sO "any"
abbrev Zi:=sO "unknown"
abbrev Zj:=sO "never"
abbrev Zk:=sO "void"
abbrev Zl:=sO "undefined"
abbrev Zm:=sO "null"
abbrev Zn:=sO "string"
abbrev Zo:=sO "object"
abbrev Zp:=sO "error"
abbrev SN:=sO "KID_SPANS"
abbrev uF:=sO "TypeTable"
abbrev Bn:=sO "str_type"
abbrev Bo:=sO "array_type"
abbrev Bp:=sO "last_mark"
abbrev Bq:=sO "needed_to_last"
abbrev Br:=sO "one_rest"
abbrev Bs:=sO "tuple_type"
abbrev Bt:=sO "sig_type"
abbrev Bu:=sO "func_type"
abbrev Bv:=sO "new_param"
abbrev Bw:=sO "parts_of"
abbrev iv:=sO "row"
abbrev My:=sO "TypeTable.__init__"
abbrev cF:=sO "t"
abbrev Mz:=sO "TypeTable.row"
abbrev MA:=sO "TypeTable.put"
abbrev Zq:=sO "bounds"
abbrev Zr:=sO "decls"
abbrev Zs:=sO "defaults"
abbrev Zt:=sO "index"
abbrev Zu:=sO "names"
abbrev Zv:=sO "origins"
abbrev Zw:=sO "putting"
abbrev Zy:=sO "renamed"
abbrev Zz:=sO "shaping"
abbrev gR:=sO "tab"
abbrev ZA:=sO "fresh"
abbrev ZC:=sO "elem"
abbrev MB:=sO "ro"
abbrev MC:=sO "elems"
abbrev ZD:=sO "marks"
abbrev MD:=sO "place"
abbrev SO:=sO "last"
abbrev ME:=sO "out"
abbrev SP:=sO "given"
abbrev Bx:=sO "mark"
abbrev ZE:=sO "first"
abbrev SQ:=sO "held"
abbrev ZF:=sO "tparams"
abbrev ZG:=sO "params"
abbrev ZH:=sO "ret"
abbrev ZI:=sO "pred"
abbrev ZJ:=sO "flags"
abbrev Ik:=sO "sig"
abbrev By:=sO "name"
abbrev Bz:=sO "bound"
abbrev ZK:=sO "default"
abbrev BA:=sO "pid"
abbrev ZL:=sO "kindkeep.relbase"
abbrev BC:=sO "whole_of_row"
abbrev BD:=sO "regular_twin"
abbrev BE:=sO "join_bools"
abbrev BF:=sO "stays_beside"
abbrev BG:=sO "top_of"
abbrev BH:=sO "union"
abbrev BJ:=sO "without"
abbrev BK:=sO "add_undef"
abbrev BL:=sO "is_literal"
abbrev BM:=sO "is_fresh"
abbrev BN:=sO "regular_one"
abbrev BO:=sO "index_kids"
abbrev BP:=sO "sig_kids"
abbrev BQ:=sO "object_kids"
abbrev BR:=sO "row_kids"
abbrev BS:=sO "row_binds"
abbrev BU:=sO "inner_kids"
abbrev BV:=sO "reached"
abbrev BW:=sO "row_free"
abbrev BX:=sO "free_round"
abbrev BY:=sO "free_params"
abbrev BZ:=sO "has_params"
abbrev B1:=sO "kind"
abbrev Il:=sO "got"
abbrev SS:=sO "cell"
abbrev ZM:=sO "seen"
abbrev ZN:=sO "waiting"
abbrev EZ:=sO "free"
abbrev ZO:=sO "kids"
abbrev ZP:=sO "kid"
abbrev SU:=sO "R_ASSIGN"
abbrev SV:=sO "R_COMPARE"
abbrev SW:=sO "R_IDENT"
abbrev SX:=sO "R_SUBTYPE"
abbrev SY:=sO "RULE_MEET"
abbrev S_:=sO "RULE_DEFERRED"
abbrev S':=sO "RULE_SIG"
abbrev Ta:=sO "RULE_LIST"
abbrev Tc:=sO "RULE_OBJECT"
abbrev Td:=sO "RULE_CHOICE"
abbrev Te:=sO "RULE_PLACES"
abbrev Tf:=sO "VALUE_ROWS"
abbrev Tg:=sO "LIST_ROWS"
abbrev Th:=sO "SHAPED_ROWS"
abbrev Ti:=sO "DEFERRED_ROWS"
abbrev Tn:=sO "OPEN_ROWS"
abbrev To:=sO "MAX_OPEN"
abbrev jl:=sO "RelRule"
abbrev B3:=sO "holds"
abbrev MF:=sO "loose"
abbrev MG:=sO "blank"
abbrev uG:=sO "tells"
abbrev dM:=sO "rel"
abbrev eu:=sO "s"
abbrev MH:=sO "RelRule.holds"
abbrev MI:=sO "RelRule.loose"
abbrev MJ:=sO "RelRule.sig"
abbrev MK:=sO "RelRule.blank"
abbrev Im:=sO "parts"
abbrev ML:=sO "RelRule.tells"
abbrev uH:=sO "Rel"
abbrev B4:=sO "by_rule"
abbrev B5:=sO "silent_with"
abbrev B6:=sO "twin_of"
abbrev B7:=sO "cut_back"
abbrev B8:=sO "settled"
abbrev B9:=sO "ask_kinds"
abbrev B_:=sO "relbase_kept"
abbrev MM:=sO "ask"
abbrev MN:=sO "note"
abbrev MP:=sO "same"
abbrev MQ:=sO "back"
abbrev MR:=sO "infer_sig"
abbrev uI:=sO "host"
abbrev MS:=sO "mode"
abbrev MT:=sO "Rel.__init__"
abbrev MU:=sO "Rel.ask"
abbrev MV:=sO "Rel.note"
abbrev MW:=sO "Rel.same"
abbrev MX:=sO "Rel.mark"
abbrev Io:=sO "spot"
abbrev MY:=sO "Rel.back"
abbrev MZ:=sO "Rel.infer_sig"
abbrev ZQ:=sO "assumed"
abbrev M3:=sO "deep"
abbrev ZR:=sO "known"
abbrev ZS:=sO "missing"
abbrev ZT:=sO "notes"
abbrev ZU:=sO "road"
abbrev ZV:=sO "rules"
abbrev ZW:=sO "telling"
abbrev ZX:=sO "trail"
abbrev ZY:=sO "twin"
abbrev ZZ:=sO "rule"
abbrev M4:=sO "made"
abbrev Tp:=sO "told"
abbrev E0:=sO "key"
abbrev Z0:=sO "answer"
abbrev Z1:=sO "kindkeep.relkeys"
abbrev B':=sO "close_trail"
abbrev Cb:=sO "taken_wider"
abbrev Cc:=sO "simple_related"
abbrev Cd:=sO "tops_related"
abbrev Ce:=sO "unknown_told"
abbrev Cf:=sO "is_numeric_enum"
abbrev Cg:=sO "values_related"
abbrev Ci:=sO "number_to_enum"
abbrev Cj:=sO "structured"
abbrev Ck:=sO "rule_for"
abbrev Cm:=sO "from_union"
abbrev Cn:=sO "some_part"
abbrev Co:=sO "lay_again"
abbrev Cp:=sO "to_union"
abbrev Cq:=sO "same_kind"
abbrev Cr:=sO "each_in"
abbrev Cs:=sO "own_param"
abbrev Ct:=sO "pid_bound"
abbrev Tq:=sO "HIDDEN"
abbrev oi:=sO "a"
abbrev mR:=sO "b"
abbrev Tr:=sO "part"
abbrev Ts:=sO "lax"
abbrev Z2:=sO "ss"
abbrev Z3:=sO "ts"
abbrev Tu:=sO "kindkeep.relsig"
abbrev Z4:=sO "kindkeep.hosts"
abbrev Cu:=sO "shown_keys"
abbrev Cv:=sO "named_keys"
abbrev Cw:=sO "member_of"
abbrev Cy:=sO "mapped_to_param"
abbrev Cz:=sO "is_empty_object"
abbrev CA:=sO "to_mapped"
abbrev CB:=sO "index_noted"
abbrev CC:=sO "keeps_marks"
abbrev CD:=sO "own_members"
abbrev CE:=sO "has_readonly"
abbrev CF:=sO "by_members"
abbrev CG:=sO "mark_rank"
abbrev CH:=sO "keys_lie"
abbrev CI:=sO "keys_and_marks"
abbrev CJ:=sO "mark_notes"
abbrev CK:=sO "key_notes"
abbrev CL:=sO "mapped_pair"
abbrev Tv:=sO "MOST_PLAIN"
abbrev Tw:=sO "PLAIN_ROWS"
abbrev CM:=sO "plain_shape"
abbrev Tx:=sO "MOST_ROUNDS"
abbrev Tz:=sO "MOST_SHAPES"
abbrev M5:=sO "keys"
abbrev yF:=sO "shape"
abbrev Z5:=sO "kept"
abbrev M6:=sO "member"
abbrev TC:=sO "want"
abbrev TF:=sO "have"
abbrev Z6:=sO "all_keys"
abbrev Z7:=sO "template"
abbrev Z8:=sO "turn"
abbrev Z9:=sO "kindkeep.shapes"
abbrev oj:=sO "Thin"
abbrev M7:=sO "force"
abbrev M8:=sO "put_deferred"
abbrev M9:=sO "put_cond"
abbrev M_:=sO "lay_row"
abbrev CN:=sO "fits"
abbrev CO:=sO "lies"
abbrev Na:=sO "infers"
abbrev Nb:=sO "tpl_fits"
abbrev Nc:=sO "shape_fits"
abbrev CP:=sO "put_in"
abbrev Nd:=sO "own_sig"
abbrev Nf:=sO "forget"
abbrev Ng:=sO "list_prop"
abbrev Nh:=sO "list_index"
abbrev Ni:=sO "elem_met"
abbrev Nj:=sO "error_class"
abbrev Nk:=sO "Thin.__init__"
abbrev Nl:=sO "Thin.force"
abbrev Nm:=sO "Thin.put_deferred"
abbrev wq:=sO "mapping"
abbrev Nn:=sO "Thin.put_cond"
abbrev Np:=sO "Thin.lay_row"
abbrev Nq:=sO "Thin.bound"
abbrev Nr:=sO "Thin.shape"
abbrev Nt:=sO "Thin.fits"
abbrev Nu:=sO "Thin.lies"
abbrev TG:=sO "pids"
abbrev Z_:=sO "check"
abbrev Z':=sO "ext"
abbrev Nv:=sO "Thin.infers"
abbrev Nx:=sO "Thin.tpl_fits"
abbrev Ny:=sO "Thin.shape_fits"
abbrev Nz:=sO "Thin.put_in"
abbrev n350:=sO "erased"
abbrev NA:=sO "Thin.own_sig"
abbrev NB:=sO "Thin.forget"
abbrev NC:=sO "Thin.list_prop"
abbrev ND:=sO "Thin.list_index"
abbrev n355:=sO "kinds"
abbrev NF:=sO "Thin.elem_met"
abbrev NG:=sO "Thin.error_class"
abbrev TH:=sO "most_deep"
abbrev TJ:=sO "most_rounds"
abbrev n360:=sO "kindkeep.keyhost"
abbrev om:=sO "RefHost"
abbrev CQ:=sO "put_each"
abbrev CR:=sO "put_cell"
abbrev CS:=sO "put_shape"
abbrev CT:=sO "plainput_put_elems"
abbrev CU:=sO "put_call"
abbrev CV:=sO "without_own"
abbrev CW:=sO "put_late"
abbrev CX:=sO "plain_put"
abbrev NH:=sO "RefHost.shape"
abbrev NI:=sO "RefHost.fits"
abbrev NJ:=sO "RefHost.lies"
abbrev n373:=sO "kindkeep.plainput"
abbrev TK:=sO "rest"
abbrev n375:=sO "law_qd0089_01"
abbrev uJ:=sO "PutHost"
abbrev uK:=sO "ParamRule"
abbrev CY:=sO "param_related"
abbrev CZ:=sO "install_rel_params"
abbrev C0:=sO "_law_units"
abbrev NK:=sO "PutHost.__init__"
abbrev NL:=sO "PutHost.put_in"
abbrev n383:=sO "kindkeep.relopen"
abbrev NM:=sO "ParamRule.holds"
abbrev TL:=sO "_law_tables"
abbrev wt:=sO "p"
abbrev C1:=sO "q"
abbrev k20:String:=PySem.W.SL.s9222952809800978799x4
abbrev C2:=sO "_law_lies"
abbrev C3:=sO "_law_draw"
abbrev C4:=sO "_law_made"
abbrev C5:=sO "_law_term"
abbrev C6:=sO "_law_row"
abbrev C7:=sO "_law_subsets"
abbrev C8:=sO "_law_other"
abbrev C9:=sO "_law_worlds"
abbrev C_:=sO "_law_members"
abbrev C':=sO "_law_faults"
abbrev Dc:=sO "_law_lies_in"
abbrev Dd:=sO "_law_lax"
abbrev De:=sO "_law_told"
abbrev E3:=sO "law"
abbrev n402:=sO "nums"
abbrev n403:=sO "i"
abbrev TM:=sO "opt"
abbrev TN:=sO "mask"
abbrev n406:=sO "x"
abbrev n407:=sO "y"
abbrev n408:=sO "table"
abbrev n409:=sO "way"
abbrev NN:=sO "closed"
abbrev n411:=sO "side"
abbrev n412:=sO "world"
abbrev n413:=sO "base"
abbrev NP:=sO "one"
abbrev NQ:=sO "other"
abbrev n416:=sO "lacks"
abbrev n417:=sO "fixed"
abbrev n418:=sO "read"
abbrev n419:=sO "near"
abbrev n420:=sO "fault"
def sv:Nat->List Str->List Value
 |t,n::r=>vS n t::sv (t+1) r
 |_,[]=>[]
abbrev vJ (i:Int):Value:= .int i 0
abbrev j0:Value:= .int 0 0
abbrev sq (l:List Value) (t:Nat):Obj:=⟨vT k0,none,.seq l.toArray t,#[]⟩
abbrev z0:Obj:=sq [] 0
abbrev fl (l:List Value):Obj:=⟨vN,none,.fields l.toArray,#[]⟩
abbrev z1:Obj:=fl []
abbrev cg (l:List Value):Obj:=⟨vT k1,none,.fields l.toArray,#[]⟩
abbrev co (a b:Str) (t:Nat) (l x k:Int) (r:Nat) (q:Bool) (v:Value):Obj:=cg [vS a t,vS b (t+1),vS n1 (t+2),vJ l,vJ x,j0,j0,vJ k,vR r,vB q,vJ 181,vR (r+1),vN,vN,vN,v,vJ (t+3:Nat),vJ l,vS n1 (t+4)]
abbrev cp (a b:Str) (t:Nat) (l x k:Int) (r m:Nat):Obj:=cg [vS a t,vS b (t+1),vS n1 (t+2),vJ l,vJ x,j0,j0,vJ k,vR r,vB true,vJ 181,vR (r+1),vN,vR (r+2),vR (r+3),vR (r+4),vJ m,vJ l,vS n1 (m+1)]
abbrev fu (s:Stmt) (n:Str) (d m:Value) (r:Nat):Obj:=⟨vT k5,none,.func (fnD s n d vN vN m none (vR r) vN 3 0 0),#[]⟩
abbrev fv (s:Stmt) (n:Str):Obj:=⟨vN,none,.func (fnD s n vN vN vN vN none vN vN 0 0 0),#[]⟩
abbrev dc (k:String) (l:List DictEntry) (m:Nat):Obj:=⟨vT k,none,.dict l.toArray m,#[]⟩
def halt{α:Type}:List α->List α
 |x::_::r=>x::halt r
 |l=>l
def v8:Nat->List Obj->BT
 |n+1,x::l=> .node x (v8 n (halt l)) (v8 n (halt l.tail))
 |_,_=> .nil
abbrev iQ:Value:=vS ZL 812
abbrev jk:Value:=vS n38 351
abbrev mL:Value:=vS Z4 1433
abbrev tG:Value:=vS n6 194
abbrev v9:Value:=vS n375 1817
abbrev v_:Value:=vS Z1 1258
abbrev Lk:Value:=vS jl 851
abbrev Ll:Value:=vS n373 1666
abbrev NR:Value:=vS jl 843
abbrev RX:Value:=vS n360 1732
abbrev Df:Value:=vS n383 1771
def hmE(P:Params)(e:Str->Nat->Value->DictEntry):List DictEntry:=[e n7 166 vN,e n8 167 vN,e n9 168 (vX k3),e n10 169 vN,e zU 170 (vR 6),e Y8 171 (vR 4),e SJ 173 (vS n1 172),e n14 174 vN,e RO 193 (vR 21),e XT 197 (vI 1 196),e n17 199 (vI 3 198),e Y9 201 (vI 4 200),e n19 203 (vI 5 202),e n20 205 (vI 10 204),e n21 207 (vI 11 206),e n22 209 (vI 15 208),e Bm 240 (vR 39),e Ih 269 (vR 60),e Ii 296 (vR 80),e Ij 350 (vR 120),e n41 354 (vI 1 353),e n42 356 (vI 2 355),e n43 358 (vI 3 357),e n44 360 (vI 4 359),e n45 362 (vI 5 361),e n46 364 (vI 6 363),e n47 366 (vI 7 365),e n48 368 (vI 8 367),e n62 370 (vI 9 369),e n63 372 (vI 10 371),e n64 374 (vI 11 373),e n65 376 (vI 12 375),e n66 378 (vI 13 377),e n67 380 (vI 14 379),e n68 382 (vI 15 381),e n69 384 (vI 16 383),e n70 386 (vI 17 385),e n71 388 (vI 18 387),e n72 390 (vI 19 389),e n73 392 (vI 0 391),e n74 394 (vI 1 393),e n75 396 (vI 2 395),e n76 398 (vI 3 397),e n77 400 (vI 4 399),e n78 402 (vI 5 401),e n79 404 (vI 6 403),e n80 406 (vI 7 405),e n81 408 (vI 8 407),e n82 410 (vI 9 409),e n83 412 (vI 10 411),e n84 414 (vI 11 413),e n85 416 (vI 13 415),e n86 418 (vI 14 417),e n87 420 (vI 15 419),e n88 422 (vI 2 421),e n89 424 (vI 8 423),e n90 426 (vI 16 425),e n91 428 (vI 0 427),e n92 430 (vI 1 429),e n93 432 (vI 2 431),e n94 434 (vI 3 433),e n95 436 (vI 400 435),e n96 458 (vR 147),e n97 459 (vR 148),e n98 460 (vR 149),e SN 476 (vR 150),e uF 531 (vR 186),e Bn 541 (vR 198),e Bo 551 (vR 206),e Bp 561 (vR 213),e Bq 574 (vR 220),e Br 588 (vR 227),e Bs 595 (vR 233),e Bt 608 (vR 242),e Bu 616 (vR 249),e Bv 631 (vR 257),e Bw 640 (vR 264),e BC 648 (vR 271),e BD 657 (vR 278),e BE 664 (vR 285),e BF 673 (vR 292),e BG 681 (vR 299),e BH 687 (vR 304),e BJ 693 (vR 309),e BK 701 (vR 316),e BL 709 (vR 323),e BM 718 (vR 330),e BN 726 (vR 337),e BO 733 (vR 344),e BP 739 (vR 349),e BQ 745 (vR 354),e BR 751 (vR 359),e BS 758 (vR 366),e BU 768 (vR 373),e BV 779 (vR 380),e BW 791 (vR 387),e BX 797 (vR 392),e BY 803 (vR 397),e BZ 811 (vR 404),e SU 815 (vI 1 814),e SV 817 (vI 2 816),e SW 819 (vI 3 818),e SX 821 (vI 4 820),e SY 823 (vI 1 822),e S_ 825 (vI 2 824),e S' 827 (vI 3 826),e Ta 829 (vI 4 828),e Tc 831 (vI 5 830),e Td 833 (vI 6 832),e Te 835 (vI 12 834),e Tf 836 (vR 405),e Tg 837 (vR 406),e Th 838 (vR 407),e Ti 839 (vR 408),e Tn 840 (vR 410),e To 842 (vI 60 841),e jl 911 (vR 455),e uH 1003 (vR 518),e B4 1014 (vR 529),e B5 1023 (vR 536),e B6 1030 (vR 543),e B7 1038 (vR 550),e B8 1046 (vR 557),e B9 1057 (vR 564),e B_ 1069 (vR 571),e B' 1078 (vR 578),e uG 1085 (vR 585),e Cb 1094 (vR 592),e Cc 1107 (vR 599),e Cd 1116 (vR 606),e Ce 1125 (vR 613),e Cf 1132 (vR 620),e Cg 1143 (vR 627),e Ci 1153 (vR 634),e Cj 1165 (vR 641),e Ck 1173 (vR 648),e Cm 1183 (vR 655),e Cn 1195 (vR 662),e Co 1204 (vR 669),e Cp 1216 (vR 676),e Cq 1228 (vR 683),e Cr 1238 (vR 690),e Cs 1248 (vR 697),e Ct 1257 (vR 704),e Tq 1261 (vI 24 1260),e Cu 1267 (vR 709),e Cv 1276 (vR 716),e Cw 1285 (vR 723),e Cy 1295 (vR 730),e Cz 1302 (vR 737),e CA 1312 (vR 744),e CB 1323 (vR 751),e CC 1333 (vR 758),e CD 1343 (vR 765),e CE 1349 (vR 770),e CF 1360 (vR 777),e CG 1367 (vR 784),e CH 1378 (vR 791),e CI 1387 (vR 798),e CJ 1396 (vR 805),e CK 1407 (vR 812),e CL 1417 (vR 819),e Tv 1421 (vI 40 1420),e Tw 1422 (vR 820),e CM 1432 (vR 827),e Tx 1436 (vI 200 1435),e Tz 1438 (vI 40 1437),e oj 1623 (vR 970),e om 1665 (vR 1005),e CQ 1673 (vR 1012),e CR 1682 (vR 1019),e CS 1688 (vR 1024),e CT 1694 (vR 1029),e CU 1700 (vR 1034),e CV 1710 (vR 1041),e CW 1721 (vR 1048),e CX 1731 (vR 1055),e uJ 1770 (vR 1079),e uK 1798 (vR 1098),e CY 1809 (vR 1107),e CZ 1816 (vR 1114),e C0 1824 (vR 1121),e TL 1840 (vR 1131),e C2 1846 (vR 1138),e C3 1854 (vR 1145),e C4 1867 (vR 1152),e C5 1875 (vR 1159),e C6 1881 (vR 1164),e C7 1887 (vR 1169),e C8 1900 (vR 1176),e C9 1906 (vR 1181),e C_ 1926 (vR 1188),e C' 1944 (vR 1195),e Dc 1953 (vR 1202),e Dd 1961 (vR 1209),e De 1969 (vR 1216),e E3 1975 (vR 1221)]
def yG:List Value:=[vJ 1,j0,vR 20,vJ 12,j0,vR 27,vJ 17,j0,vR 48,vJ 22,j0,vR 68,vJ 27,j0,vR 88,vJ 90,j0,vR 161,vJ 116,j0,vR 197,vJ 118,j0,vR 205,vJ 120,j0,vR 212,vJ 126,j0,vR 219,vJ 136,j0,vR 226,vJ 147,j0,vR 232,vJ 155,j0,vR 241,vJ 157,j0,vR 248,vJ 159,j0,vR 256,vJ 165,j0,vR 263,vJ 172,j0,vR 270,vJ 181,j0,vR 277,vJ 186,j0,vR 284,vJ 190,j0,vR 291,vJ 194,j0,vR 298,vJ 199,j0,vR 303,vJ 216,j0,vR 308,vJ 218,j0,vR 315,vJ 220,j0,vR 322,vJ 222,j0,vR 329,vJ 225,j0,vR 336,vJ 229,j0,vR 343,vJ 231,j0,vR 348,vJ 237,j0,vR 353,vJ 242,j0,vR 358,vJ 258,j0,vR 365,vJ 266,j0,vR 372,vJ 272,j0,vR 379,vJ 281,j0,vR 386,vJ 292,j0,vR 391,vJ 299,j0,vR 396,vJ 315,j0,vR 403,vJ 335,j0,vR 416,vJ 351,j0,vR 465,vJ 386,j0,vR 528,vJ 389,j0,vR 535,vJ 394,j0,vR 542,vJ 400,j0,vR 549,vJ 404,j0,vR 556,vJ 409,j0,vR 563,vJ 427,j0,vR 570,vJ 449,j0,vR 577,vJ 455,j0,vR 584,vJ 457,j0,vR 591,vJ 460,j0,vR 598,vJ 476,j0,vR 605,vJ 493,j0,vR 612,vJ 500,j0,vR 619,vJ 502,j0,vR 626,vJ 516,j0,vR 633,vJ 523,j0,vR 640,vJ 532,j0,vR 647,vJ 542,j0,vR 654,vJ 550,j0,vR 661,vJ 564,j0,vR 668,vJ 570,j0,vR 675,vJ 583,j0,vR 682,vJ 592,j0,vR 689,vJ 598,j0,vR 696,vJ 600,j0,vR 703,vJ 605,j0,vR 708,vJ 610,j0,vR 715,vJ 615,j0,vR 722,vJ 617,j0,vR 729,vJ 627,j0,vR 736,vJ 629,j0,vR 743,vJ 641,j0,vR 750,vJ 650,j0,vR 757,vJ 653,j0,vR 764,vJ 662,j0,vR 769,vJ 666,j0,vR 776,vJ 680,j0,vR 783,vJ 682,j0,vR 790,vJ 688,j0,vR 797,vJ 694,j0,vR 804,vJ 699,j0,vR 811,vJ 710,j0,vR 818,vJ 724,j0,vR 826,vJ 742,j0,vR 833,vJ 803,j0,vR 980,vJ 814,j0,vR 1011,vJ 816,j0,vR 1018,vJ 818,j0,vR 1023,vJ 824,j0,vR 1028,vJ 830,j0,vR 1033,vJ 835,j0,vR 1040,vJ 841,j0,vR 1047,vJ 856,j0,vR 1054,vJ 874,j0,vR 1061,vJ 885,j0,vR 1087,vJ 889,j0,vR 1106,vJ 895,j0,vR 1113,vJ 898,j0,vR 1120,vJ 901,j0,vR 1137,vJ 903,j0,vR 1144,vJ 905,j0,vR 1151,vJ 909,j0,vR 1158,vJ 912,j0,vR 1163,vJ 919,j0,vR 1168,vJ 924,j0,vR 1175,vJ 937,j0,vR 1180,vJ 947,j0,vR 1187,vJ 965,j0,vR 1194,vJ 986,j0,vR 1201,vJ 995,j0,vR 1208,vJ 1001,j0,vR 1215,vJ 1003,j0,vR 1220]
def yH(P:Params)(e:Str->Nat->Value->DictEntry)(v:Value)(k m:Nat):Obj:=dc k4 (e n5 165 v::(hmE P e).take k) m
def hA1(P:Params)(e:Str->Nat->Value->DictEntry):List Obj:=[b0 P,b1 P,⟨vN,none,(.dict [en P n3 237 (vJ 39),en P n4 238 (vJ 1)].toArray 2),[].toArray⟩,yH P e v9 197 198,b4 P,b5 P,b6 P,b7 P,b8 P,b9 P,b10 P,z0,fl yG,co n0 n0 182 1 0 0 11 false vN,⟨(vT k2),none,.plain,[some (vR 13),some (vR 3),some (vR 3),none,some (vS n2 164),none,some (vR 0)].toArray⟩]
def hA2(P:Params)(e:Str->Nat->Value->DictEntry):List Obj:=[z0,z1,sq [vS n25 190] 0,z0,fv (st 0) RO,cp RO RO 187 1 1 3 15 191,fu (st 0) RO vN (vS n2 164) 20,sq [vT k6] 0,⟨(vT k9),none,(.fields [vX k7,vT k8].toArray),[].toArray⟩,dc k4 [e pZ 217 tG,e EW 219 (vS Bm 218),e sH 221 (vI 12 220),e qu 230 (vR 36),e sJ 233 (vR 37)] 5,z0,fl [vJ 14,vJ 4,vR 35],co Bm Bm 212 12 0 0 25 false vN,⟨(vT k2),none,.plain,[some (vR 27),some (vR 3),some (vR 24),none,some tG,none,some (vR 0)].toArray⟩,sq [vS Y_ 222] 0,z0,z1,sq (sv 226 [ir,Mw]) 0,z0,fv (cm 9 0) Y',cp qu Y' 223 14 2 3 30 228,fu (cm 9 0) Y' (vR 29) tG 35,sq (sv 231 [RQ,Mw]) 0,dc k4 [e pZ 217 tG,e sH 221 (vI 12 220),e qu 230 (vR 36),e sJ 233 (vR 37),e EF 235 (vR 40),e n7 236 vN] 3,⟨(vT k8),none,(.cls (tF Bm [vT k6] [vR 39,vT k6,vT XU,vT lh] 38 Bm true [] [vR 60,vR 80] false none false)),[some (vR 22),none,some (vS Bm 210),some (vS Bm 218),some (vX XW),some (vB true)].toArray⟩,⟨(vT EX),none,(.fields [vS EF 234,vR 39,vX RV,vN].toArray),[].toArray⟩,⟨(vT EY),none,(.fields [vR 39,vR 39,vR 39].toArray),[].toArray⟩,⟨(vT k9),none,(.fields [vX wo,vR 39].toArray),[].toArray⟩,sq [vR 39] 0,⟨(vT k9),none,(.fields [vX k7,vT k8].toArray),[].toArray⟩,dc k4 [e pZ 248 tG,e EW 250 (vS Ih 249),e sH 252 (vI 17 251),e qu 263 (vR 57),e sJ 266 (vR 58)] 5,z0,fl [vJ 19,vJ 4,vR 56],co Ih Ih 243 17 0 0 46 false vN,⟨(vT k2),none,.plain,[some (vR 48),some (vR 3),some (vR 45),none,some tG,none,some (vR 0)].toArray⟩,sq [vI 2589 253,vS Y_ 254] 0,z0,z1,sq (sv 258 [ir,RQ,Mw]) 0,z0,fv (cm 10 0) Za,cp qu Za 255 19 3 3 51 261,fu (cm 10 0) Za (vR 50) tG 56,sq (sv 264 [RQ,Mw]) 0,dc k4 [e pZ 248 tG,e sH 252 (vI 17 251),e qu 263 (vR 57),e sJ 266 (vR 58),e n7 267 vN] 2,⟨(vT k8),none,(.cls (tF Ih [vR 39] [vR 60,vR 39,vT k6,vT XU,vT lh] 59 Ih true [] [] false none false)),[some (vR 43),none,some (vS Ih 241),some (vS Ih 249),some (vX XW),some (vB true)].toArray⟩,⟨(vT EY),none,(.fields [vR 60,vR 60,vR 60].toArray),[].toArray⟩,⟨(vT k9),none,(.fields [vX wo,vR 60].toArray),[].toArray⟩]
def hA3(P:Params)(e:Str->Nat->Value->DictEntry):List Obj:=[sq [vR 39] 0,⟨(vT k9),none,(.fields [vX k7,vT k8].toArray),[].toArray⟩,dc k4 [e pZ 277 tG,e EW 279 (vS Ii 278),e sH 281 (vI 22 280),e qu 290 (vR 77),e sJ 293 (vR 78)] 5,z0,fl [vJ 24,vJ 4,vR 76],co Ii Ii 272 22 0 0 66 false vN,⟨(vT k2),none,.plain,[some (vR 68),some (vR 3),some (vR 65),none,some tG,none,some (vR 0)].toArray⟩,sq [vS Y_ 282] 0,z0,z1,sq (sv 286 [ir,Mw]) 0,z0,fv (cm 11 0) Zb,cp qu Zb 283 24 2 3 71 288,fu (cm 11 0) Zb (vR 70) tG 76,sq (sv 291 [RQ,Mw]) 0,dc k4 [e pZ 277 tG,e sH 281 (vI 22 280),e qu 290 (vR 77),e sJ 293 (vR 78),e n7 294 vN] 2,⟨(vT k8),none,(.cls (tF Ii [vR 39] [vR 80,vR 39,vT k6,vT XU,vT lh] 79 Ii true [] [] false none false)),[some (vR 63),none,some (vS Ii 270),some (vS Ii 278),some (vX XW),some (vB true)].toArray⟩,⟨(vT EY),none,(.fields [vR 80,vR 80,vR 80].toArray),[].toArray⟩,⟨(vT k9),none,(.fields [vX wo,vR 80].toArray),[].toArray⟩,z0,⟨(vT k9),none,(.fields [vX k7,vT k8].toArray),[].toArray⟩,dc k4 [e pZ 304 tG,e EW 306 (vS Ij 305),e sH 308 (vI 27 307),e qu 315 (vR 96),e RW 324 (vR 103),e XX 334 (vR 110),e XY 341 (vR 117),e sJ 343 (vR 118)] 8,z0,fl [vJ 29,vJ 4,vR 95,vJ 32,vJ 4,vR 102,vJ 35,vJ 4,vR 109,vJ 41,vJ 4,vR 116],co Ij Ij 299 27 0 0 86 false vN,⟨(vT k2),none,.plain,[some (vR 88),some (vR 3),some (vR 85),none,some tG,none,some (vR 0)].toArray⟩,z0,z1,sq [vS ir 312] 0,z0,fv (cm 12 0) Zc,cp qu Zc 309 29 1 3 90 313,fu (cm 12 0) Zc vN tG 95,z0,z1,sq (sv 319 [ir,Zd,XZ]) 0,z0,fv (cm 12 1) Ze,cp RW Ze 316 32 3 3 97 322,fu (cm 12 1) Ze vN tG 102,z0,z1,sq (sv 328 [ir,Zf,Zd,XZ]) 0,z0,fv (cm 12 2) Zg,cp XX Zg 325 35 1 3 104 332,fu (cm 12 2) Zg vN tG 109,z0,z1,sq [vS ir 338] 0,z0,fv (cm 12 3) Zh,cp XY Zh 335 41 1 3 111 339,fu (cm 12 3) Zh vN tG 116,sq [vS Mx 342] 0,dc k4 [e pZ 304 tG,e sH 308 (vI 27 307),e qu 315 (vR 96),e RW 324 (vR 103),e XX 334 (vR 110),e XY 341 (vR 117),e sJ 343 (vR 118),e HZ 345 (vR 121),e EF 347 (vR 122),e n7 348 vN] 4,⟨(vT k8),none,(.cls (tF Ij [vT lh] [vR 120,vT lh] 119 Ij true [] [] false none false)),[none,none,some (vS Ij 297),some (vS Ij 305),some (vX yr),some (vB true)].toArray⟩,⟨(vT EX),none,(.fields [vS HZ 344,vR 120,vX SK,vX SM].toArray),[].toArray⟩,⟨(vT EX),none,(.fields [vS EF 346,vR 120,vX RV,vN].toArray),[].toArray⟩,⟨(vT EY),none,(.fields [vR 120,vR 120,vR 120].toArray),[].toArray⟩,⟨(vT k9),none,(.fields [vX wo,vR 120].toArray),[].toArray⟩]
def hA4(P:Params)(e:Str->Nat->Value->DictEntry):List Obj:=[sq [vI 1 353,vS n99 437] 0,sq [vI 1 353,vS Zi 438] 0,sq [vI 1 353,vS Zj 439] 0,sq [vI 1 353,vS Zk 440] 0,sq [vI 1 353,vS Zl 441] 0,sq [vI 1 353,vS Zm 442] 0,sq [vI 1 353,vS Zn 443] 0,sq [vI 1 353,vS RQ 444] 0,sq [vI 2 355,vI 0 445,vI 0 446] 0,sq [vI 2 355,vI 1 447,vI 0 448] 0,sq [vI 1 353,vS Zo 449] 0,z0,z0,z0,z0,z0,sq [vI 8 367,vR 136,vR 137,vR 138,vR 139,vR 140,vI 0 450] 0,sq [vI 8 451,vI 9 452] 0,sq [vI 6 363,vR 142] 0,sq [vI 1 353,vS Zp 453] 0,sq [vI 2 355,vI 0 454,vI 1 455] 0,sq [vI 2 355,vI 1 456,vI 1 457] 0,sq [vR 125,vR 126,vR 127,vR 128,vR 129,vR 130,vR 131,vR 132,vR 133,vR 134,vR 135,vR 141,vR 143,vR 144,vR 145,vR 146] 0,sq [vI 2 355,vI 3 357,vI 4 359,vI 5 361] 0,sq [vI 2 355,vI 3 357,vI 4 359,vI 5 361,vI 8 367] 0]
def hA5(P:Params)(e:Str->Nat->Value->DictEntry):List Obj:=[dc k4 [⟨11,vI 11 373,vR 151⟩,⟨14,vI 14 379,vR 152⟩,⟨15,vI 15 381,vR 153⟩,⟨16,vI 16 383,vR 154⟩,⟨17,vI 17 385,vR 155⟩] 5,sq [vI 1 461,vI 2 462] 0,sq [vI 1 463,vI 2 464] 0,sq [vI 1 465,vI 3 466] 0,sq [vI 1 467,vI 5 468] 0,sq [vI 2 469,vI 5 470] 0]
def hA6(P:Params)(e:Str->Nat->Value->DictEntry):List Obj:=[z0,⟨(vT k9),none,(.fields [vX k7,vT k8].toArray),[].toArray⟩,dc k4 [e pZ 484 jk,e EW 486 (vS uF 485),e sH 488 (vI 90 487),e qu 496 (vR 169),e iv 504 (vR 176),e RW 513 (vR 183),e sJ 524 (vR 184)] 7,z0,fl [vJ 92,vJ 4,vR 168,vJ 106,vJ 4,vR 175,vJ 109,vJ 4,vR 182],co uF uF 479 90 0 0 159 false vN,⟨(vT k2),none,.plain,[some (vR 161),some (vR 3),some (vR 158),none,some jk,none,some (vR 0)].toArray⟩,z0,z1,sq (sv 492 [ir,iv]) 0,z0,fv (cm 60 0) My,cp qu My 489 92 1 3 163 494,fu (cm 60 0) My vN jk 168,z0,z1,sq (sv 500 [ir,cF]) 0,z0,fv (cm 60 1) Mz,cp iv Mz 497 106 2 3 170 502,fu (cm 60 1) Mz vN jk 175,z0,z1,sq (sv 508 [ir,iv,cF]) 0,z0,fv (cm 60 2) MA,cp RW MA 505 109 2 3 177 511,fu (cm 60 2) MA vN jk 182,sq (sv 514 [Zq,Zr,Zs,Zt,Zu,Zv,Zw,Zy,Mx,Zz]) 0,dc k4 [e pZ 484 jk,e sH 488 (vI 90 487),e qu 496 (vR 169),e iv 504 (vR 176),e RW 513 (vR 183),e sJ 524 (vR 184),e HZ 526 (vR 187),e EF 528 (vR 188),e n7 529 vN] 4,⟨(vT k8),none,(.cls (tF uF [vT lh] [vR 186,vT lh] 185 uF true [] [] false none false)),[none,none,some (vS uF 477),some (vS uF 485),some (vX yr),some (vB true)].toArray⟩,⟨(vT EX),none,(.fields [vS HZ 525,vR 186,vX SK,vX SM].toArray),[].toArray⟩,⟨(vT EX),none,(.fields [vS EF 527,vR 186,vX RV,vN].toArray),[].toArray⟩,⟨(vT EY),none,(.fields [vR 186,vR 186,vR 186].toArray),[].toArray⟩,⟨(vT k9),none,(.fields [vX wo,vR 186].toArray),[].toArray⟩,sq [vI 0 532] 0,z0,z1,sq (sv 536 [gR,Mw,ZA]) 0,z0,fv (st 61) Bn,cp Bn Bn 533 116 3 3 192 539,fu (st 61) Bn (vR 191) jk 197,sq [vI 0 542] 0,z0,z1,sq (sv 546 [gR,ZC,MB]) 0,z0,fv (st 62) Bo,cp Bo Bo 543 118 3 3 200 549,fu (st 62) Bo (vR 199) jk 205,z0,z1,sq (sv 555 [MC,ZD,Zf,MD]) 0,z0,fv (st 63) Bp,cp Bp Bp 552 120 2 3 207 559,fu (st 63) Bp vN jk 212,z0,z1,sq (sv 565 [gR,MC,SO,ME,MD,SP,Bx]) 0,z0,fv (st 64) Bq,cp Bq Bq 562 126 2 3 214 572,fu (st 64) Bq vN jk 219,z0,z1,sq (sv 578 [gR,MC,SO,ZE,MD,SQ,SP,Bx]) 0,z0,fv (st 65) Br,cp Br Br 575 136 3 3 221 586,fu (st 65) Br vN jk 226,sq [vI 0 589] 0,z0,z1,fv (st 66) Bs,co Bs Bs 590 147 3 3 229 true (vR 231),fu (st 66) Bs (vR 228) jk 232,z0,sq [vR 234,vI 0 596] 0,z0,z1,sq (sv 600 [gR,ZF,ZG,ZH,ZI,ZJ]) 0,z0,fv (st 67) Bt,cp Bt Bt 597 155 6 3 236 606,fu (st 67) Bt (vR 235) jk 241,z0,z1,sq (sv 612 [gR,Ik]) 0,z0,fv (st 68) Bu,cp Bu Bu 609 157 2 3 243 614,fu (st 68) Bu vN jk 248,sq [vI (-1) 618,vI (-1) 620] 0,z0,z1,sq (sv 624 [gR,By,Bz,ZK,BA]) 0,z0,fv (st 69) Bv,cp Bv Bv 621 159 4 3 251 629,fu (st 69) Bv (vR 250) jk 256,z0,z1,sq (sv 635 [gR,cF,iv]) 0,z0,fv (st 70) Bw,cp Bw Bw 632 165 2 3 258 638,fu (st 70) Bw vN jk 263]
def hA7(P:Params)(e:Str->Nat->Value->DictEntry):List Obj:=[z0,z1,sq (sv 644 [iv,B1]) 0,z0,fv (st 71) BC,cp BC BC 641 172 1 3 265 646,fu (st 71) BC vN jk 270,z0,z1,sq (sv 652 [gR,cF,iv]) 0,z0,fv (st 72) BD,cp BD BD 649 181 2 3 272 655,fu (st 72) BD vN jk 277,z0,z1,sq [vS Il 661] 0,z0,fv (st 73) BE,cp BE BE 658 186 1 3 279 662,fu (st 73) BE vN jk 284,z0,z1,sq (sv 668 [gR,Il,cF]) 0,z0,fv (st 74) BF,cp BF BF 665 190 3 3 286 671,fu (st 74) BF vN jk 291,z0,z1,sq (sv 677 [Il,cF]) 0,z0,fv (st 75) BG,cp BG BG 674 194 1 3 293 679,fu (st 75) BG vN jk 298,z0,z1,fv (st 76) BH,co BH BH 682 199 2 3 300 true (vR 302),fu (st 76) BH vN jk 303,z0,z1,fv (st 77) BJ,co BJ BJ 688 216 3 3 305 true (vR 307),fu (st 77) BJ vN jk 308,z0,z1,sq (sv 697 [gR,cF]) 0,z0,fv (st 78) BK,cp BK BK 694 218 2 3 310 699,fu (st 78) BK vN jk 315,z0,z1,sq (sv 705 [gR,cF]) 0,z0,fv (st 79) BL,cp BL BL 702 220 2 3 317 707,fu (st 79) BL vN jk 322,z0,z1,sq (sv 713 [gR,cF,iv]) 0,z0,fv (st 80) BM,cp BM BM 710 222 2 3 324 716,fu (st 80) BM vN jk 329,z0,z1,sq (sv 722 [gR,cF]) 0,z0,fv (st 81) BN,cp BN BN 719 225 2 3 331 724,fu (st 81) BN vN jk 336,z0,z1,sq [vS SS 730] 0,z0,fv (st 82) BO,cp BO BO 727 229 1 3 338 731,fu (st 82) BO vN jk 343,z0,z1,fv (st 83) BP,co BP BP 734 231 1 3 345 true (vR 347),fu (st 83) BP vN jk 348,z0,z1,fv (st 84) BQ,co BQ BQ 740 237 1 3 350 true (vR 352),fu (st 84) BQ vN jk 353,z0,z1,fv (st 85) BR,co BR BR 746 242 1 3 355 true (vR 357),fu (st 85) BR vN jk 358,z0,z1,sq [vS iv 755] 0,z0,fv (st 86) BS,cp BS BS 752 258 1 3 360 756,fu (st 86) BS vN jk 365,z0,z1,sq (sv 762 [gR,iv,ME,BA]) 0,z0,fv (st 87) BU,cp BU BU 759 266 2 3 367 766,fu (st 87) BU vN jk 372,z0,z1,sq (sv 772 [gR,cF,ZM,ZN,XZ]) 0,z0,fv (st 88) BV,cp BV BV 769 272 2 3 374 777,fu (st 88) BV vN jk 379,z0,z1,sq (sv 783 [iv,EZ,ZO,ME,ZP,BA]) 0,z0,fv (st 89) BW,cp BW BW 780 281 3 3 381 789,fu (st 89) BW vN jk 386,z0,z1,fv (st 90) BX,co BX BX 792 292 3 3 388 true (vR 390),fu (st 90) BX vN jk 391,z0,z1,fv (st 91) BY,co BY BY 798 299 2 3 393 true (vR 395),fu (st 91) BY vN jk 396,z0,z1,sq (sv 807 [gR,cF]) 0,z0,fv (st 92) BZ,cp BZ BZ 804 315 2 3 398 809,fu (st 92) BZ vN jk 403]
def hA8(P:Params)(e:Str->Nat->Value->DictEntry):List Obj:=[sq [vI 1 353,vI 2 355,vI 3 357,vI 4 359,vI 5 361] 0,sq [vI 11 373,vI 12 375] 0,sq [vI 8 367,vI 9 369] 0,sq [vI 10 371,vI 14 379,vI 15 381,vI 16 383,vI 17 385,vI 18 387,vI 19 389] 0,sq [vI 6 363,vI 7 365] 0,sq [vI 6 363,vI 7 365,vI 10 371,vI 14 379,vI 15 381,vI 16 383,vI 17 385,vI 18 387,vI 19 389] 0,z0,⟨(vT k9),none,(.fields [vX k7,vT k8].toArray),[].toArray⟩,dc k4 [e pZ 850 iQ,e EW 852 Lk,e sH 854 (vI 335 853),e B3 864 (vR 424),e MF 874 (vR 431),e Ik 884 (vR 438),e MG 893 (vR 445),e uG 903 (vR 452),e sJ 904 (vR 453)] 9,z0,fl [vJ 337,vJ 4,vR 423,vJ 340,vJ 4,vR 430,vJ 343,vJ 4,vR 437,vJ 346,vJ 4,vR 444,vJ 349,vJ 4,vR 451],co jl jl 845 335 0 0 414 false vN,⟨(vT k2),none,.plain,[some (vR 416),some (vR 3),some (vR 413),none,some iQ,none,some (vR 0)].toArray⟩,z0,z1,sq (sv 858 [ir,dM,eu,cF]) 0,z0,fv (cm 111 0) MH,cp B3 MH 855 337 4 3 418 862,fu (cm 111 0) MH vN iQ 423,z0,z1,sq (sv 868 [ir,dM,eu,cF]) 0,z0,fv (cm 111 1) MI,cp MF MI 865 340 4 3 425 872,fu (cm 111 1) MI vN iQ 430,z0,z1,sq (sv 878 [ir,dM,eu,cF]) 0,z0,fv (cm 111 2) MJ,cp Ik MJ 875 343 4 3 432 882,fu (cm 111 2) MJ vN iQ 437,z0,z1,sq (sv 888 [ir,dM,eu]) 0,z0,fv (cm 111 3) MK,cp MG MK 885 346 3 3 439 891,fu (cm 111 3) MK vN iQ 444,z0,z1,sq (sv 897 [ir,dM,Im,By]) 0,z0,fv (cm 111 4) ML,cp uG ML 894 349 4 3 446 901,fu (cm 111 4) ML vN iQ 451,z0,dc k4 [e pZ 850 iQ,e sH 854 (vI 335 853),e B3 864 (vR 424),e MF 874 (vR 431),e Ik 884 (vR 438),e MG 893 (vR 445),e uG 903 (vR 452),e sJ 904 (vR 453),e HZ 906 (vR 456),e EF 908 (vR 457),e n7 909 vN] 4,⟨(vT k8),none,(.cls (tF jl [vT lh] [vR 455,vT lh] 454 jl true [] [vR 1098] false none false)),[none,none,some NR,some Lk,some (vX yr),some (vB true)].toArray⟩,⟨(vT EX),none,(.fields [vS HZ 905,vR 455,vX SK,vX SM].toArray),[].toArray⟩,⟨(vT EX),none,(.fields [vS EF 907,vR 455,vX RV,vN].toArray),[].toArray⟩,⟨(vT EY),none,(.fields [vR 455,vR 455,vR 455].toArray),[].toArray⟩,⟨(vT k9),none,(.fields [vX wo,vR 455].toArray),[].toArray⟩]
def hA9(P:Params)(e:Str->Nat->Value->DictEntry):List Obj:=[z0,⟨(vT k9),none,(.fields [vX k7,vT k8].toArray),[].toArray⟩,dc k4 [e pZ 919 iQ,e EW 921 (vS uH 920),e sH 923 (vI 351 922),e qu 932 (vR 473),e MM 941 (vR 480),e MN 949 (vR 487),e MP 958 (vR 494),e Bx 965 (vR 501),e MQ 973 (vR 508),e MR 982 (vR 515),e sJ 996 (vR 516)] 11,z0,fl [vJ 353,vJ 4,vR 472,vJ 368,vJ 4,vR 479,vJ 371,vJ 4,vR 486,vJ 375,vJ 4,vR 493,vJ 378,vJ 4,vR 500,vJ 381,vJ 4,vR 507,vJ 384,vJ 4,vR 514],co uH uH 914 351 0 0 463 false vN,⟨(vT k2),none,.plain,[some (vR 465),some (vR 3),some (vR 462),none,some iQ,none,some (vR 0)].toArray⟩,z0,z1,sq (sv 927 [ir,uI,MS]) 0,z0,fv (cm 112 0) MT,cp qu MT 924 353 3 3 467 930,fu (cm 112 0) MT vN iQ 472,z0,z1,sq (sv 936 [ir,eu,cF]) 0,z0,fv (cm 112 1) MU,cp MM MU 933 368 3 3 474 939,fu (cm 112 1) MU vN iQ 479,z0,z1,sq (sv 945 [ir,Zd]) 0,z0,fv (cm 112 2) MV,cp MN MV 942 371 2 3 481 947,fu (cm 112 2) MV vN iQ 486,z0,z1,sq (sv 953 [ir,eu,cF]) 0,z0,fv (cm 112 3) MW,cp MP MW 950 375 3 3 488 956,fu (cm 112 3) MW vN iQ 493,z0,z1,sq [vS ir 962] 0,z0,fv (cm 112 4) MX,cp Bx MX 959 378 1 3 495 963,fu (cm 112 4) MX vN iQ 500,z0,z1,sq (sv 969 [ir,Io]) 0,z0,fv (cm 112 5) MY,cp MQ MY 966 381 2 3 502 971,fu (cm 112 5) MY vN iQ 507,z0,z1,sq (sv 977 [ir,eu,cF]) 0,z0,fv (cm 112 6) MZ,cp MR MZ 974 384 3 3 509 980,fu (cm 112 6) MZ vN iQ 514,sq (sv 983 [ZQ,XZ,M3,uI,ZR,ZS,MS,ZT,ZU,ZV,ZW,ZX,ZY]) 0,dc k4 [e pZ 919 iQ,e sH 923 (vI 351 922),e qu 932 (vR 473),e MM 941 (vR 480),e MN 949 (vR 487),e MP 958 (vR 494),e Bx 965 (vR 501),e MQ 973 (vR 508),e MR 982 (vR 515),e sJ 996 (vR 516),e HZ 998 (vR 519),e EF 1000 (vR 520),e n7 1001 vN] 4,⟨(vT k8),none,(.cls (tF uH [vT lh] [vR 518,vT lh] 517 uH true [] [] false none false)),[none,none,some (vS uH 912),some (vS uH 920),some (vX yr),some (vB true)].toArray⟩,⟨(vT EX),none,(.fields [vS HZ 997,vR 518,vX SK,vX SM].toArray),[].toArray⟩,⟨(vT EX),none,(.fields [vS EF 999,vR 518,vX RV,vN].toArray),[].toArray⟩,⟨(vT EY),none,(.fields [vR 518,vR 518,vR 518].toArray),[].toArray⟩,⟨(vT k9),none,(.fields [vX wo,vR 518].toArray),[].toArray⟩,z0,z1,sq (sv 1007 [dM,RQ,eu,cF,ZZ]) 0,z0,fv (st 113) B4,cp B4 B4 1004 386 4 3 523 1012,fu (st 113) B4 vN iQ 528,z0,z1,sq (sv 1018 [dM,MS,M4]) 0,z0,fv (st 114) B5,cp B5 B5 1015 389 2 3 530 1021,fu (st 114) B5 vN iQ 535,z0,z1,sq [vS dM 1027] 0,z0,fv (st 115) B6,cp B6 B6 1024 394 1 3 537 1028,fu (st 115) B6 vN iQ 542,z0,z1,sq (sv 1034 [dM,Io]) 0,z0,fv (st 116) B7,cp B7 B7 1031 400 2 3 544 1036,fu (st 116) B7 vN iQ 549,z0,z1,sq (sv 1042 [uI,cF]) 0,z0,fv (st 117) B8,cp B8 B8 1039 404 2 3 551 1044,fu (st 117) B8 vN iQ 556,z0,z1,sq (sv 1050 [dM,eu,cF,Mx,Tp]) 0,z0,fv (st 118) B9,cp B9 B9 1047 409 3 3 558 1055,fu (st 118) B9 vN iQ 563,z0,z1,sq (sv 1061 [dM,eu,cF,E0,Io,Z0]) 0,z0,fv (st 119) B_,cp B_ B_ 1058 427 3 3 565 1067,fu (st 119) B_ vN iQ 570]
def hA10(P:Params)(e:Str->Nat->Value->DictEntry):List Obj:=[z0,z1,sq (sv 1073 [dM,XY,E0]) 0,z0,fv (st 120) B',cp B' B' 1070 449 2 3 572 1076,fu (st 120) B' vN iQ 577,z0,z1,sq [vS dM 1082] 0,z0,fv (st 121) uG,cp uG uG 1079 455 1 3 579 1083,fu (st 121) uG vN iQ 584,z0,z1,sq (sv 1089 [dM,eu,cF]) 0,z0,fv (st 122) Cb,cp Cb Cb 1086 457 3 3 586 1092,fu (st 122) Cb vN iQ 591,z0,z1,sq (sv 1098 [dM,eu,cF,Tp,Mx,oi,mR]) 0,z0,fv (st 123) Cc,cp Cc Cc 1095 460 3 3 593 1105,fu (st 123) Cc vN iQ 598,z0,z1,sq (sv 1111 [dM,eu,cF]) 0,z0,fv (st 124) Cd,cp Cd Cd 1108 476 3 3 600 1114,fu (st 124) Cd vN iQ 605,z0,z1,sq (sv 1120 [dM,cF,Im]) 0,z0,fv (st 125) Ce,cp Ce Ce 1117 493 2 3 607 1123,fu (st 125) Ce vN iQ 612,z0,z1,sq [vS iv 1129] 0,z0,fv (st 126) Cf,cp Cf Cf 1126 500 1 3 614 1130,fu (st 126) Cf vN iQ 619,z0,z1,sq (sv 1136 [dM,eu,cF,oi,mR]) 0,z0,fv (st 127) Cg,cp Cg Cg 1133 502 3 3 621 1141,fu (st 127) Cg vN iQ 626,z0,z1,sq (sv 1147 [dM,eu,oi,mR]) 0,z0,fv (st 128) Ci,cp Ci Ci 1144 516 4 3 628 1151,fu (st 128) Ci vN iQ 633,z0,z1,sq (sv 1157 [dM,eu,cF,Mx,oi,mR]) 0,z0,fv (st 129) Cj,cp Cj Cj 1154 523 3 3 635 1163,fu (st 129) Cj vN iQ 640,z0,z1,sq (sv 1169 [oi,mR]) 0,z0,fv (st 130) Ck,cp Ck Ck 1166 532 2 3 642 1171,fu (st 130) Ck vN iQ 647,z0,z1,sq (sv 1177 [dM,eu,cF,Tr]) 0,z0,fv (st 131) Cm,cp Cm Cm 1174 542 3 3 649 1181,fu (st 131) Cm vN iQ 654,z0,z1,sq (sv 1187 [dM,eu,Im,Ts,Tr,Io]) 0,z0,fv (st 132) Cn,cp Cn Cn 1184 550 3 3 656 1193,fu (st 132) Cn vN iQ 661,z0,z1,sq (sv 1199 [dM,Ts,E0]) 0,z0,fv (st 133) Co,cp Co Co 1196 564 2 3 663 1202,fu (st 133) Co vN iQ 668,z0,z1,sq (sv 1208 [dM,eu,cF,gR,Im,B1]) 0,z0,fv (st 134) Cp,cp Cp Cp 1205 570 3 3 670 1214,fu (st 134) Cp vN iQ 675,z0,z1,sq (sv 1220 [dM,eu,cF,Mx,oi,mR]) 0,z0,fv (st 135) Cq,cp Cq Cq 1217 583 3 3 677 1226,fu (st 135) Cq vN iQ 682,z0,z1,sq (sv 1232 [dM,Z2,Z3,eu]) 0,z0,fv (st 136) Cr,cp Cr Cr 1229 592 3 3 684 1236,fu (st 136) Cr vN iQ 689,z0,z1,sq (sv 1244 [gR,BA]) 0,z0,fv (st 138) Cs,cp Cs Cs 1241 598 2 3 691 1246,fu (st 138) Cs vN (vS Tu 1239) 696,z0,z1,sq (sv 1252 [gR,BA,Bz]) 0,z0,fv (st 139) Ct,cp Ct Ct 1249 600 2 3 698 1255,fu (st 139) Ct vN (vS Tu 1239) 703]
def hA11(P:Params)(e:Str->Nat->Value->DictEntry):List Obj:=[z0,z1,fv (st 142) Cu,co Cu Cu 1262 605 3 3 705 true (vR 707),fu (st 142) Cu vN v_ 708,z0,z1,sq (sv 1271 [uI,eu,B1]) 0,z0,fv (st 143) Cv,cp Cv Cv 1268 610 2 3 710 1274,fu (st 143) Cv vN v_ 715,z0,z1,sq (sv 1280 [dM,eu,iv]) 0,z0,fv (st 144) Cw,cp Cw Cw 1277 615 3 3 717 1283,fu (st 144) Cw vN v_ 722,z0,z1,sq (sv 1289 [dM,cF,oi,M5]) 0,z0,fv (st 145) Cy,cp Cy Cy 1286 617 3 3 724 1293,fu (st 145) Cy vN v_ 729,z0,z1,sq [vS iv 1299] 0,z0,fv (st 146) Cz,cp Cz Cz 1296 627 1 3 731 1300,fu (st 146) Cz vN v_ 736,z0,z1,sq (sv 1306 [dM,eu,oi,mR]) 0,z0,fv (st 147) CA,cp CA CA 1303 629 4 3 738 1310,fu (st 147) CA vN v_ 743,z0,z1,sq (sv 1316 [dM,eu,M5,uI,yF]) 0,z0,fv (st 148) CB,cp CB CB 1313 641 3 3 745 1321,fu (st 148) CB vN v_ 750,z0,z1,sq (sv 1327 [gR,eu,M5,iv]) 0,z0,fv (st 149) CC,cp CC CC 1324 650 3 3 752 1331,fu (st 149) CC vN v_ 757,z0,z1,sq (sv 1337 [dM,eu,mR,Z5]) 0,z0,fv (st 150) CD,cp CD CD 1334 653 3 3 759 1341,fu (st 150) CD vN v_ 764,z0,z1,fv (st 151) CE,co CE CE 1344 662 2 3 766 true (vR 768),fu (st 151) CE vN v_ 769,z0,z1,sq (sv 1353 [dM,eu,mR,uI,M6]) 0,z0,fv (st 152) CF,cp CF CF 1350 666 3 3 771 1358,fu (st 152) CF vN v_ 776,z0,z1,sq [vS Bx 1364] 0,z0,fv (st 153) CG,cp CG CG 1361 680 1 3 778 1365,fu (st 153) CG vN v_ 783,z0,z1,sq (sv 1371 [dM,TC,TF,oi,mR]) 0,z0,fv (st 154) CH,cp CH CH 1368 682 3 3 785 1376,fu (st 154) CH vN v_ 790,z0,z1,sq (sv 1382 [dM,oi,mR]) 0,z0,fv (st 155) CI,cp CI CI 1379 688 3 3 792 1385,fu (st 155) CI vN v_ 797,z0,z1,sq (sv 1391 [dM,oi,mR]) 0,z0,fv (st 156) CJ,cp CJ CJ 1388 694 3 3 799 1394,fu (st 156) CJ vN v_ 804,z0,z1,sq (sv 1400 [dM,oi,mR,Mx,Z6]) 0,z0,fv (st 157) CK,cp CK CK 1397 699 3 3 806 1405,fu (st 157) CK vN v_ 811,z0,z1,sq (sv 1411 [dM,oi,mR,Z7]) 0,z0,fv (st 158) CL,cp CL CL 1408 710 3 3 813 1415,fu (st 158) CL vN v_ 818,sq [vI 1 353,vI 2 355,vI 3 357,vI 4 359,vI 5 361] 0,z0,z1,sq (sv 1426 [gR,cF,Z8,iv]) 0,z0,fv (st 162) CM,cp CM CM 1423 724 2 3 821 1430,fu (st 162) CM vN (vS Z9 1418) 826]
def hA12(P:Params)(e:Str->Nat->Value->DictEntry):List Obj:=[z0,⟨(vT k9),none,(.fields [vX k7,vT k8].toArray),[].toArray⟩,dc k4 [e pZ 1446 mL,e EW 1448 (vS oj 1447),e sH 1450 (vI 742 1449),e qu 1458 (vR 841),e M7 1466 (vR 848),e M8 1474 (vR 855),e M9 1483 (vR 862),e M_ 1492 (vR 869),e Bz 1500 (vR 876),e yF 1508 (vR 883),e CN 1517 (vR 890),e CO 1526 (vR 897),e Na 1536 (vR 904),e Nb 1545 (vR 911),e Nc 1554 (vR 918),e CP 1563 (vR 925),e Nd 1572 (vR 932),e Nf 1579 (vR 939),e Ng 1588 (vR 946),e Nh 1596 (vR 953),e Ni 1604 (vR 960),e Nj 1611 (vR 967),e sJ 1616 (vR 968)] 23,z0,fl [vJ 744,vJ 4,vR 840,vJ 750,vJ 4,vR 847,vJ 753,vJ 4,vR 854,vJ 756,vJ 4,vR 861,vJ 759,vJ 4,vR 868,vJ 762,vJ 4,vR 875,vJ 765,vJ 4,vR 882,vJ 768,vJ 4,vR 889,vJ 771,vJ 4,vR 896,vJ 774,vJ 4,vR 903,vJ 777,vJ 4,vR 910,vJ 780,vJ 4,vR 917,vJ 783,vJ 4,vR 924,vJ 786,vJ 4,vR 931,vJ 789,vJ 4,vR 938,vJ 792,vJ 4,vR 945,vJ 795,vJ 4,vR 952,vJ 798,vJ 4,vR 959,vJ 801,vJ 4,vR 966],co oj oj 1441 742 0 0 831 false vN,⟨(vT k2),none,.plain,[some (vR 833),some (vR 3),some (vR 830),none,some mL,none,some (vR 0)].toArray⟩,z0,z1,sq (sv 1454 [ir,gR]) 0,z0,fv (cm 166 0) Nk,cp qu Nk 1451 744 2 3 835 1456,fu (cm 166 0) Nk vN mL 840,z0,z1,sq (sv 1462 [ir,cF]) 0,z0,fv (cm 166 1) Nl,cp M7 Nl 1459 750 2 3 842 1464,fu (cm 166 1) Nl vN mL 847,z0,z1,sq (sv 1470 [ir,iv]) 0,z0,fv (cm 166 2) Nm,cp M8 Nm 1467 753 2 3 849 1472,fu (cm 166 2) Nm vN mL 854,z0,z1,sq (sv 1478 [ir,iv,wq]) 0,z0,fv (cm 166 3) Nn,cp M9 Nn 1475 756 3 3 856 1481,fu (cm 166 3) Nn vN mL 861,z0,z1,sq (sv 1487 [ir,iv,wq]) 0,z0,fv (cm 166 4) Np,cp M_ Np 1484 759 3 3 863 1490,fu (cm 166 4) Np vN mL 868,z0,z1,sq (sv 1496 [ir,cF]) 0,z0,fv (cm 166 5) Nq,cp Bz Nq 1493 762 2 3 870 1498,fu (cm 166 5) Nq vN mL 875,z0,z1,sq (sv 1504 [ir,cF]) 0,z0,fv (cm 166 6) Nr,cp yF Nr 1501 765 2 3 877 1506,fu (cm 166 6) Nr vN mL 882,z0,z1,sq (sv 1512 [ir,eu,cF]) 0,z0,fv (cm 166 7) Nt,cp CN Nt 1509 768 3 3 884 1515,fu (cm 166 7) Nt vN mL 889,z0,z1,sq (sv 1521 [ir,eu,cF]) 0,z0,fv (cm 166 8) Nu,cp CO Nu 1518 771 3 3 891 1524,fu (cm 166 8) Nu vN mL 896,z0,z1,sq (sv 1530 [ir,TG,Z_,Z']) 0,z0,fv (cm 166 9) Nv,cp Na Nv 1527 774 4 3 898 1534,fu (cm 166 9) Nv vN mL 903,z0,z1,sq (sv 1540 [ir,eu,cF]) 0,z0,fv (cm 166 10) Nx,cp Nb Nx 1537 777 3 3 905 1543,fu (cm 166 10) Nx vN mL 910,z0,z1,sq (sv 1549 [ir,eu,cF]) 0,z0,fv (cm 166 11) Ny,cp Nc Ny 1546 780 3 3 912 1552,fu (cm 166 11) Ny vN mL 917,z0,z1,sq (sv 1558 [ir,cF,wq]) 0,z0,fv (cm 166 12) Nz,cp CP Nz 1555 783 3 3 919 1561,fu (cm 166 12) Nz vN mL 924,z0,z1,sq (sv 1567 [ir,eu,n350]) 0,z0,fv (cm 166 13) NA,cp Nd NA 1564 786 3 3 926 1570,fu (cm 166 13) NA vN mL 931,z0,z1,sq [vS ir 1576] 0,z0,fv (cm 166 14) NB,cp Nf NB 1573 789 1 3 933 1577,fu (cm 166 14) NB vN mL 938,z0,z1,sq (sv 1583 [ir,cF,By]) 0,z0,fv (cm 166 15) NC,cp Ng NC 1580 792 3 3 940 1586,fu (cm 166 15) NC vN mL 945,z0,z1,sq (sv 1592 [ir,cF]) 0,z0,fv (cm 166 16) ND,cp Nh ND 1589 795 2 3 947 1594,fu (cm 166 16) ND vN mL 952,z0,z1,sq (sv 1600 [ir,n355]) 0,z0,fv (cm 166 17) NF,cp Ni NF 1597 798 2 3 954 1602,fu (cm 166 17) NF vN mL 959,z0,z1,sq [vS ir 1608] 0,z0,fv (cm 166 18) NG,cp Nj NG 1605 801 1 3 961 1609,fu (cm 166 18) NG vN mL 966,sq (sv 1612 [M3,TH,TJ,gR]) 0,dc k4 [e pZ 1446 mL,e sH 1450 (vI 742 1449),e qu 1458 (vR 841),e M7 1466 (vR 848),e M8 1474 (vR 855),e M9 1483 (vR 862),e M_ 1492 (vR 869),e Bz 1500 (vR 876),e yF 1508 (vR 883),e CN 1517 (vR 890),e CO 1526 (vR 897),e Na 1536 (vR 904),e Nb 1545 (vR 911),e Nc 1554 (vR 918),e CP 1563 (vR 925),e Nd 1572 (vR 932),e Nf 1579 (vR 939),e Ng 1588 (vR 946),e Nh 1596 (vR 953),e Ni 1604 (vR 960),e Nj 1611 (vR 967),e sJ 1616 (vR 968),e HZ 1618 (vR 971),e EF 1620 (vR 972),e n7 1621 vN] 4,⟨(vT k8),none,(.cls (tF oj [vT lh] [vR 970,vT lh] 969 oj true [] [vR 1005] false none false)),[none,none,some (vS oj 1439),some (vS oj 1447),some (vX yr),some (vB true)].toArray⟩,⟨(vT EX),none,(.fields [vS HZ 1617,vR 970,vX SK,vX SM].toArray),[].toArray⟩,⟨(vT EX),none,(.fields [vS EF 1619,vR 970,vX RV,vN].toArray),[].toArray⟩,⟨(vT EY),none,(.fields [vR 970,vR 970,vR 970].toArray),[].toArray⟩,⟨(vT k9),none,(.fields [vX wo,vR 970].toArray),[].toArray⟩]
def hA13(P:Params)(e:Str->Nat->Value->DictEntry):List Obj:=[sq [vR 970] 0,⟨(vT k9),none,(.fields [vX k7,vT k8].toArray),[].toArray⟩,dc k4 [e pZ 1631 mL,e EW 1633 (vS om 1632),e sH 1635 (vI 803 1634),e yF 1643 (vR 988),e CN 1652 (vR 995),e CO 1661 (vR 1002),e sJ 1662 (vR 1003)] 7,z0,fl [vJ 805,vJ 4,vR 987,vJ 808,vJ 4,vR 994,vJ 811,vJ 4,vR 1001],co om om 1626 803 0 0 978 false vN,⟨(vT k2),none,.plain,[some (vR 980),some (vR 3),some (vR 977),none,some mL,none,some (vR 0)].toArray⟩,z0,z1,sq (sv 1639 [ir,cF]) 0,z0,fv (cm 167 0) NH,cp yF NH 1636 805 2 3 982 1641,fu (cm 167 0) NH vN mL 987,z0,z1,sq (sv 1647 [ir,eu,cF]) 0,z0,fv (cm 167 1) NI,cp CN NI 1644 808 3 3 989 1650,fu (cm 167 1) NI vN mL 994,z0,z1,sq (sv 1656 [ir,eu,cF]) 0,z0,fv (cm 167 2) NJ,cp CO NJ 1653 811 3 3 996 1659,fu (cm 167 2) NJ vN mL 1001,z0,dc k4 [e pZ 1631 mL,e sH 1635 (vI 803 1634),e yF 1643 (vR 988),e CN 1652 (vR 995),e CO 1661 (vR 1002),e sJ 1662 (vR 1003),e n7 1663 vN] 2,⟨(vT k8),none,(.cls (tF om [vR 970] [vR 1005,vR 970,vT lh] 1004 om true [] [vR 1079] false none false)),[some (vR 975),none,some (vS om 1624),some (vS om 1632),some (vX yr),some (vB true)].toArray⟩,⟨(vT EY),none,(.fields [vR 1005,vR 1005,vR 1005].toArray),[].toArray⟩,⟨(vT k9),none,(.fields [vX wo,vR 1005].toArray),[].toArray⟩,z0,z1,fv (st 169) CQ,co CQ CQ 1668 814 3 3 1008 true (vR 1010),fu (st 169) CQ vN Ll 1011,z0,z1,sq (sv 1677 [uI,SS,wq]) 0,z0,fv (st 170) CR,cp CR CR 1674 816 3 3 1013 1680,fu (st 170) CR vN Ll 1018,z0,z1,fv (st 171) CS,co CS CS 1683 818 3 3 1020 true (vR 1022),fu (st 171) CS vN Ll 1023,z0,z1,fv (st 172) CT,co CT CT 1689 824 3 3 1025 true (vR 1027),fu (st 172) CT vN Ll 1028,z0,z1,fv (st 173) CU,co CU CU 1695 830 4 3 1030 true (vR 1032),fu (st 173) CU vN Ll 1033,z0,z1,sq (sv 1704 [wq,TG,TK,BA]) 0,z0,fv (st 174) CV,cp CV CV 1701 835 2 3 1035 1708,fu (st 174) CV vN Ll 1040,z0,z1,sq (sv 1714 [uI,cF,iv,wq,TK]) 0,z0,fv (st 175) CW,cp CW CW 1711 841 4 3 1042 1719,fu (st 175) CW vN Ll 1047,z0,z1,sq (sv 1725 [uI,cF,wq,iv]) 0,z0,fv (st 176) CX,cp CX CX 1722 856 3 3 1049 1729,fu (st 176) CX vN Ll 1054]
def hA14(P:Params)(e:Str->Nat->Value->DictEntry):List Obj:=[sq [vR 1005] 0,⟨(vT k9),none,(.fields [vX k7,vT k8].toArray),[].toArray⟩,dc k4 [e pZ 1741 RX,e EW 1743 (vS uJ 1742),e sH 1745 (vI 874 1744),e qu 1753 (vR 1069),e CP 1762 (vR 1076),e sJ 1767 (vR 1077)] 6,z0,fl [vJ 876,vJ 4,vR 1068,vJ 882,vJ 4,vR 1075],co uJ uJ 1736 874 0 0 1059 false vN,⟨(vT k2),none,.plain,[some (vR 1061),some (vR 3),some (vR 1058),none,some RX,none,some (vR 0)].toArray⟩,z0,z1,sq (sv 1749 [ir,gR]) 0,z0,fv (cm 178 0) NK,cp qu NK 1746 876 2 3 1063 1751,fu (cm 178 0) NK vN RX 1068,z0,z1,sq (sv 1757 [ir,cF,wq]) 0,z0,fv (cm 178 1) NL,cp CP NL 1754 882 3 3 1070 1760,fu (cm 178 1) NL vN RX 1075,sq (sv 1763 [M3,TH,TJ,gR]) 0,dc k4 [e pZ 1741 RX,e sH 1745 (vI 874 1744),e qu 1753 (vR 1069),e CP 1762 (vR 1076),e sJ 1767 (vR 1077),e n7 1768 vN] 2,⟨(vT k8),none,(.cls (tF uJ [vR 1005] [vR 1079,vR 1005,vR 970,vT lh] 1078 uJ true [] [] false none false)),[some (vR 1056),none,some (vS uJ 1734),some (vS uJ 1742),some (vX yr),some (vB true)].toArray⟩,⟨(vT EY),none,(.fields [vR 1079,vR 1079,vR 1079].toArray),[].toArray⟩,⟨(vT k9),none,(.fields [vX wo,vR 1079].toArray),[].toArray⟩,sq [vR 455] 0,⟨(vT k9),none,(.fields [vX k7,vT k8].toArray),[].toArray⟩,dc k4 [e pZ 1780 Df,e EW 1782 (vS uK 1781),e sH 1784 (vI 885 1783),e B3 1794 (vR 1095),e sJ 1795 (vR 1096)] 5,z0,fl [vJ 887,vJ 4,vR 1094],co uK uK 1775 885 0 0 1085 false vN,⟨(vT k2),none,.plain,[some (vR 1087),some (vR 3),some (vR 1084),none,some Df,none,some (vR 0)].toArray⟩,z0,z1,sq (sv 1788 [ir,dM,eu,cF]) 0,z0,fv (cm 180 0) NM,cp B3 NM 1785 887 4 3 1089 1792,fu (cm 180 0) NM vN Df 1094,z0,dc k4 [e pZ 1780 Df,e sH 1784 (vI 885 1783),e B3 1794 (vR 1095),e sJ 1795 (vR 1096),e n7 1796 vN] 2,⟨(vT k8),none,(.cls (tF uK [vR 455] [vR 1098,vR 455,vT lh] 1097 uK true [] [] false none false)),[some (vR 1082),none,some (vS uK 1773),some (vS uK 1781),some (vX yr),some (vB true)].toArray⟩,⟨(vT EY),none,(.fields [vR 1098,vR 1098,vR 1098].toArray),[].toArray⟩,⟨(vT k9),none,(.fields [vX wo,vR 1098].toArray),[].toArray⟩,z0,z1,sq (sv 1802 [dM,eu,cF,iv,Bz]) 0,z0,fv (st 181) CY,cp CY CY 1799 889 3 3 1101 1807,fu (st 181) CY vN Df 1106,z0,z1,sq [vS dM 1813] 0,z0,fv (st 182) CZ,cp CZ CZ 1810 895 1 3 1108 1814,fu (st 182) CZ vN Df 1113,z0,z1,z0,z0,fv (st 184) C0,cp C0 C0 1819 898 0 3 1115 1822,fu (st 184) C0 vN v9 1120]
def hA15(P:Params)(e:Str->Nat->Value->DictEntry):List Obj:=[dc k4 [] 0,dc k4 [e wt 1825 (vR 1124)] 1,sq [vI 32 1826,vB false,vB false] 0,dc k4 [e wt 1828 (vR 1126),e C1 1830 (vR 1127)] 2,sq [vI 32 1829,vB true,vB false] 0,sq [vI 1 1831,vB false,vB true] 0,dc k4 [e wt 1834 (vR 1129),e C1 1836 (vR 1130)] 2,sq [vI 33 1835,vB false,vB true] 0,sq [vI 32 1837,vB true,vB true] 0,⟨(vT k20),none,(.seq [vR 1122,vR 1123,vR 1125,vR 1128].toArray 0),[].toArray⟩]
def hA16(P:Params)(e:Str->Nat->Value->DictEntry):List Obj:=[z0,z1,z0,z0,fv (st 186) C2,cp C2 C2 1841 901 0 3 1132 1844,fu (st 186) C2 vN v9 1137,z0,z1,sq (sv 1850 [n402,n403]) 0,z0,fv (st 187) C3,cp C3 C3 1847 903 2 3 1139 1852,fu (st 187) C3 vN v9 1144,z0,z1,sq (sv 1858 [E0,TM,MB,TN,M6,SQ,EZ]) 0,z0,fv (st 188) C4,cp C4 C4 1855 905 5 3 1146 1865,fu (st 188) C4 vN v9 1151,z0,z1,sq (sv 1871 [n406,n407]) 0,z0,fv (st 189) C5,cp C5 C5 1868 909 1 3 1153 1873,fu (st 189) C5 vN v9 1158,z0,z1,fv (st 190) C6,co C6 C6 1876 912 4 3 1160 true (vR 1162),fu (st 190) C6 vN v9 1163,z0,z1,fv (st 191) C7,co C7 C7 1882 919 1 3 1165 true (vR 1167),fu (st 191) C7 vN v9 1168,z0,z1,sq (sv 1891 [n408,n409,M4,By,B1,EZ,NN]) 0,z0,fv (st 192) C8,cp C8 C8 1888 924 2 3 1170 1898,fu (st 192) C8 vN v9 1175,z0,z1,fv (st 193) C9,co C9 C9 1901 937 1 3 1177 true (vR 1179),fu (st 193) C9 vN v9 1180,z0,z1,sq (sv 1910 [n411,n412,E0,TM,MB,TN,M6,n413,M4,By,B1,EZ,NN,Il]) 0,z0,fv (st 194) C_,cp C_ C_ 1907 947 2 3 1182 1924,fu (st 194) C_ vN v9 1187,z0,z1,sq (sv 1930 [NP,NQ,Zf,By,B1,EZ,NN,TF,n416,n417,TC,n418]) 0,z0,fv (st 195) C',cp C' C' 1927 965 2 3 1189 1942,fu (st 195) C' vN v9 1194,z0,z1,sq (sv 1948 [NP,NQ,n419]) 0,z0,fv (st 196) Dc,cp Dc Dc 1945 986 2 3 1196 1951,fu (st 196) Dc vN v9 1201,z0,z1,sq (sv 1957 [NP,NQ]) 0,z0,fv (st 197) Dd,cp Dd Dd 1954 995 2 3 1203 1959,fu (st 197) Dd vN v9 1208,z0,z1,sq (sv 1965 [n420,XX]) 0,z0,fv (st 198) De,cp De De 1962 1001 2 3 1210 1967,fu (st 198) De vN v9 1215,z0,z1,fv (st 199) E3,co E3 E3 1970 1003 1 3 1217 true (vR 1219),fu (st 199) E3 vN v9 1220]
def yt(P:Params)(e:Str->Nat->Value->DictEntry):List Obj:=hA1 P e++(hA2 P e++(hA3 P e++(hA4 P e++(hA5 P e++(hA6 P e++(hA7 P e++(hA8 P e++(hA9 P e++(hA10 P e++(hA11 P e++(hA12 P e++(hA13 P e++(hA14 P e++(hA15 P e++(hA16 P e)))))))))))))))
def T1(P:Params):BT:=let e:=en P;v8 12 (((((yt P e).take 15).set 2 (b2 P)).set 3 (b3 P)).set 12 (z1))
def T2(P:Params):BT:=let e:=en P;v8 12 (((((yt P e).take 63).set 3 (yH P e tG 18 19)).set 12 (fl (yG.take 9))).set 39 (⟨(vT k8),none,(.cls (tF Bm [vT k6] [vR 39,vT k6,vT XU,vT lh] 38 Bm true [] [vR 60] false none false)),[some (vR 22),none,some (vS Bm 210),some (vS Bm 218),some (vX XW),some (vB true)].toArray⟩))
def T3(P:Params):BT:=let e:=en P;v8 12 ((((yt P e).take 125).set 3 (yH P e jk 28 29)).set 12 (fl (yG.take 15)))
def T4(P:Params):BT:=let e:=en P;v8 12 ((((yt P e).take 150).set 3 (yH P e jk 65 66)).set 12 (fl (yG.take 15)))
def T5(P:Params):BT:=let e:=en P;v8 12 ((((yt P e).take 156).set 3 (yH P e jk 66 67)).set 12 (fl (yG.take 15)))
def T6(P:Params):BT:=let e:=en P;v8 12 ((((yt P e).take 265).set 3 (yH P e jk 77 78)).set 12 (fl (yG.take 48)))
def T7(P:Params):BT:=let e:=en P;v8 12 ((((yt P e).take 405).set 3 (yH P e iQ 99 100)).set 12 (fl (yG.take 114)))
def T8(P:Params):BT:=let e:=en P;v8 12 (((((yt P e).take 460).set 3 (yH P e iQ 117 118)).set 12 (fl (yG.take 117))).set 455 (⟨(vT k8),none,(.cls (tF jl [vT lh] [vR 455,vT lh] 454 jl true [] [] false none false)),[none,none,some NR,some Lk,some (vX yr),some (vB true)].toArray⟩))
def T9(P:Params):BT:=let e:=en P;v8 12 (((((yt P e).take 572).set 3 (yH P e iQ 125 126)).set 12 (fl (yG.take 141))).set 455 (⟨(vT k8),none,(.cls (tF jl [vT lh] [vR 455,vT lh] 454 jl true [] [] false none false)),[none,none,some NR,some Lk,some (vX yr),some (vB true)].toArray⟩))
def T10(P:Params):BT:=let e:=en P;v8 12 (((((yt P e).take 705).set 3 (yH P e v_ 145 146)).set 12 (fl (yG.take 198))).set 455 (⟨(vT k8),none,(.cls (tF jl [vT lh] [vR 455,vT lh] 454 jl true [] [] false none false)),[none,none,some NR,some Lk,some (vX yr),some (vB true)].toArray⟩))
def T11(P:Params):BT:=let e:=en P;v8 12 (((((yt P e).take 828).set 3 (yH P e mL 167 168)).set 12 (fl (yG.take 252))).set 455 (⟨(vT k8),none,(.cls (tF jl [vT lh] [vR 455,vT lh] 454 jl true [] [] false none false)),[none,none,some NR,some Lk,some (vX yr),some (vB true)].toArray⟩))
def T12(P:Params):BT:=let e:=en P;v8 12 ((((((yt P e).take 975).set 3 (yH P e mL 168 169)).set 12 (fl (yG.take 255))).set 455 (⟨(vT k8),none,(.cls (tF jl [vT lh] [vR 455,vT lh] 454 jl true [] [] false none false)),[none,none,some NR,some Lk,some (vX yr),some (vB true)].toArray⟩)).set 970 (⟨(vT k8),none,(.cls (tF oj [vT lh] [vR 970,vT lh] 969 oj true [] [] false none false)),[none,none,some (vS oj 1439),some (vS oj 1447),some (vX yr),some (vB true)].toArray⟩))
def T13(P:Params):BT:=let e:=en P;v8 12 ((((((yt P e).take 1056).set 3 (yH P e RX 177 178)).set 12 (fl (yG.take 282))).set 455 (⟨(vT k8),none,(.cls (tF jl [vT lh] [vR 455,vT lh] 454 jl true [] [] false none false)),[none,none,some NR,some Lk,some (vX yr),some (vB true)].toArray⟩)).set 1005 (⟨(vT k8),none,(.cls (tF om [vR 970] [vR 1005,vR 970,vT lh] 1004 om true [] [] false none false)),[some (vR 975),none,some (vS om 1624),some (vS om 1632),some (vX yr),some (vB true)].toArray⟩))
def TP(P:Params):BT:=let e:=en P;v8 12 ((((yt P e).take 1122).set 3 (yH P e v9 182 183)).set 12 (fl (yG.take 297)))
def TQ(P:Params):BT:=let e:=en P;v8 12 ((((yt P e).take 1132).set 3 (yH P e v9 183 184)).set 12 (fl (yG.take 297)))
def hF(P:Params):List Obj:=let e:=en P;yt P e
def T16(P:Params):BT:=v8 12 (hF P)
def NS:List Nat->Nat->List Obj->List (Addr×Obj)
 |i::is,k,o::r=>bif Nat.beq i k then(k,o)::NS is (k+1) r else NS (i::is) (k+1) r
 |_,_,_=>[]
abbrev hX (T:BT) (n t:Nat) (os:OsState):SharedT:=⟨T,n,lf,#[],dr,t,os⟩
abbrev sM (w:World) (os:OsState) (T T':Params->BT) (a n t i j:Nat) (p:Pos) (n' t':Nat) (p':Pos):Prop:=SR TT P0 w 11 yE 1 a (hX (T w.params) n t os) (piecesOf (wm i j) qU cE p B0)=some (.next,hX (T' w.params) n' t' os,cE,p')
abbrev hRn (w:World) (os:OsState) (T T':Params->BT) (a n t i j:Nat) (p:Pos) (n' t':Nat) (p':Pos):Prop:=segRunT treeTable P0 w 11 yE 1 a (hX (T w.params) n t os) (piecesOf (wm i j) qU cE p B0)=some (.next,hX (T' w.params) n' t' os,cE,p')
theorem yI{w:World}{os:OsState}{T T':Params->BT}{a n t i j:Nat}{p:Pos}{n' t':Nat}{p':Pos}(h:sM w os T T' a n t i j p n' t' p'):hRn w os T T' a n t i j p n' t' p':=by unfold hRn;rw[PySem.W.Fast.te10110043849684766642,PySem.W.Fast.te14364793385576792824];exact h
theorem NT(w:World)(os:OsState):sM w os T1 T2 583 15 187 0 11 ⟨0,0,0,0⟩ 63 270 ⟨17,0,21,24⟩:=by kernel_rfl
theorem NU(w:World)(os:OsState):sM w os T2 T3 649 63 270 11 11 ⟨17,0,21,24⟩ 125 369 ⟨51,0,51,5⟩:=by kernel_rfl
theorem NV(w:World)(os:OsState):sM w os T3 T4 452 125 369 22 37 ⟨51,0,51,5⟩ 150 461 ⟨88,0,88,11⟩:=by kernel_rfl
theorem Ip(w:World)(os:OsState):sM (w.withFollow "special-get-raises" false) os T4 T5 96 150 461 59 1 ⟨88,0,88,11⟩ 156 477 ⟨89,0,89,9⟩:=by kernel_rfl
theorem Iq(w:World)(os:OsState):sM (w.withFollow "special-get-raises" true) os T4 T5 96 150 461 59 1 ⟨88,0,88,11⟩ 156 477 ⟨89,0,89,9⟩:=by kernel_rfl
theorem NW(w:World)(os:OsState):sM w os T4 T5 96 150 461 59 1 ⟨88,0,88,11⟩ 156 477 ⟨89,0,89,9⟩:=
 byRow2 "special-get-raises" (P:=λw=>∀os,sM w os T4 T5 96 150 461 59 1 ⟨88,0,88,11⟩ 156 477 ⟨89,0,89,9⟩) Ip Iq w os
theorem NX(w:World)(os:OsState):sM w os T5 T6 639 156 477 60 11 ⟨89,0,89,9⟩ 265 641 ⟨165,0,171,15⟩:=by kernel_rfl
theorem NY(w:World)(os:OsState):sM w os T6 T7 651 265 641 71 23 ⟨165,0,171,15⟩ 405 814 ⟨317,0,317,8⟩:=by kernel_rfl
theorem NZ(w:World)(os:OsState):sM w os T7 T8 569 405 814 94 18 ⟨317,0,317,8⟩ 460 912 ⟨335,0,350,16⟩:=by kernel_rfl
theorem N9(w:World)(os:OsState):sM w os T8 T9 650 460 912 112 8 ⟨335,0,350,16⟩ 572 1070 ⟨427,0,448,17⟩:=by kernel_rfl
theorem Ir(w:World)(os:OsState):sM w os T9 T10 640 572 1070 120 22 ⟨427,0,448,17⟩ 705 1262 ⟨604,0,604,6⟩:=by kernel_rfl
theorem It(w:World)(os:OsState):sM w os T10 T11 624 705 1262 142 24 ⟨604,0,604,6⟩ 828 1439 ⟨741,0,741,11⟩:=by kernel_rfl
theorem Iu(w:World)(os:OsState):sM w os T11 T12 811 828 1439 166 1 ⟨741,0,741,11⟩ 975 1624 ⟨742,0,802,17⟩:=by kernel_rfl
theorem Iv(w:World)(os:OsState):sM w os T12 T13 561 975 1624 167 11 ⟨742,0,802,17⟩ 1056 1734 ⟨873,0,873,8⟩:=by kernel_rfl
theorem Iw(w:World)(os:OsState):sM w os T13 TP 650 1056 1734 178 7 ⟨873,0,873,8⟩ 1122 1825 ⟨898,0,899,48⟩:=by kernel_rfl
theorem E4(w:World)(os:OsState):sM (w.withFollow "special-get-raises" false) os TP TQ 104 1122 1825 185 1 ⟨898,0,899,48⟩ 1132 1841 ⟨900,0,900,11⟩:=by kernel_rfl
theorem E5(w:World)(os:OsState):sM (w.withFollow "special-get-raises" true) os TP TQ 104 1122 1825 185 1 ⟨898,0,899,48⟩ 1132 1841 ⟨900,0,900,11⟩:=by kernel_rfl
theorem Iy(w:World)(os:OsState):sM w os TP TQ 104 1122 1825 185 1 ⟨898,0,899,48⟩ 1132 1841 ⟨900,0,900,11⟩:=
 byRow2 "special-get-raises" (P:=λw=>∀os,sM w os TP TQ 104 1122 1825 185 1 ⟨898,0,899,48⟩ 1132 1841 ⟨900,0,900,11⟩) E4 E5 w os
theorem Iz(w:World)(os:OsState):sM w os TQ T16 436 1132 1841 186 14 ⟨900,0,900,11⟩ 1222 1976 ⟨1003,0,1055,15⟩:=by kernel_rfl
theorem IA:bE=wm 0 11++(wm 11 11++(wm 22 37++(wm 59 1++(wm 60 11++(wm 71 23++(wm 94 18++(wm 112 8++(wm 120 22++(wm 142 24++(wm 166 1++(wm 167 11++(wm 178 7++(wm 185 1++(wm 186 14++([]))))))))))))))):=by kernel_rfl
def Ha(P:Params):Heap:=⟨[b0 P,b1 P,b2 P,b3 P,b4 P,b5 P,b6 P,b7 P,b8 P,b9 P,b10 P,(z0),(z1),(co n0 n0 182 1 0 0 11 false vN),(⟨(vT k2),none,.plain,[some (vR 13),some (vR 3),some (vR 3),none,some (vS n2 164),none,some (vR 0)].toArray⟩)].toArray,lf⟩
def Hf(P:Params):Heap:=absHeap (T16 P) 1222 lf
theorem IB(w:World)(os:OsState):topGo treeTable P0 w 11 yE 12 ⟨boot_heap w.params,#[],boot_drawn,boot_toks,os⟩ (topStub P0)=
  some (⟨Ha w.params,#[],dr,187,os⟩,⟨denote treeTable (.body bE qU),cE,⟨0,0,0,0⟩,B0⟩):=by
 rw[PySem.W.Fast.te15667345088766844465,PySem.W.Fast.te14364793385576792824,PySem.W.Fast.te11892475500146522536];kernel_rfl
theorem Dg(w:World)(os:OsState):segRun treeTable P0 w 11 yE 1 1 ⟨Ha w.params,#[],dr,187,os⟩ (blockOf bE qU cE ⟨0,0,0,0⟩ B0)=
  some (.next,SharedT.abs ⟨T1 w.params,15,lf,#[],dr,187,os⟩,cE,⟨0,0,0,0⟩):=by
 rw[PySem.W.Fast.te14374325043358763698,PySem.W.Fast.te14364793385576792824];kernel_rfl
theorem IC(w:World)(os:OsState):topRun treeTable P0 w 11 yE 2 (SharedT.abs ⟨T16 w.params,1222,lf,#[],dr,1976,os⟩) ⟨doneF .next,cE,⟨1003,0,1055,15⟩,B0⟩=
  some ⟨Hf w.params,#[],dr,1976,os⟩:=by kernel_rfl
abbrev M0:Nat:=(12+(1+(583+(649+(452+(96+(639+(651+(569+(650+(640+(624+(811+(561+(650+(104+(436+2)))))))))))))))))
theorem ID(w:World)(os:OsState):topRun treeTable P0 w 11 yE M0 ⟨boot_heap w.params,#[],boot_drawn,boot_toks,os⟩ (topStub P0)=some ⟨Hf w.params,#[],dr,1976,os⟩:=by refine go_top (IB w os) (piece_block (Dg w os) ?_);rw[IA];refine piece_app (segRun_of (yI (NT w os))) ?_;refine piece_app (segRun_of (yI (NU w os))) ?_;refine piece_app (segRun_of (yI (NV w os))) ?_;refine piece_app (segRun_of (yI (NW w os))) ?_;refine piece_app (segRun_of (yI (NX w os))) ?_;refine piece_app (segRun_of (yI (NY w os))) ?_;refine piece_app (segRun_of (yI (NZ w os))) ?_;refine piece_app (segRun_of (yI (N9 w os))) ?_;refine piece_app (segRun_of (yI (Ir w os))) ?_;refine piece_app (segRun_of (yI (It w os))) ?_;refine piece_app (segRun_of (yI (Iu w os))) ?_;refine piece_app (segRun_of (yI (Iv w os))) ?_;refine piece_app (segRun_of (yI (Iw w os))) ?_;refine piece_app (segRun_of (yI (Iy w os))) ?_;refine piece_app (segRun_of (yI (Iz w os))) ?_;exact piece_nil (IC w os)
def q0:Program:={P0 with main:={P0.main with body:=[st 199]}}
def oq:List Str:=[RO,XT,n17,Y9,n19,n20,n21,n22,Bm,Ih,Ii,Ij,n41,n42,n43,n44,n45,n46,n47,n48,n62,n63,n64,n65,n66,n67,n68,n69,n70,n71,n72,n73,n74,n75,n76,n77,n78,n79,n80,n81,n82,n83,n84,n85,n86,n87,n88,n89,n90,n91,n92,n93,n94,n95,n96,n97,n98,SN,uF,Bn,Bo,Bp,Bq,Br,Bs,Bt,Bu,Bv,Bw,BC,BD,BE,BF,BG,BH,BJ,BK,BL,BM,BN,BO,BP,BQ,BR,BS,BU,BV,BW,BX,BY,BZ,SU,SV,SW,SX,SY,S_,S',Ta,Tc,Td,Te,Tf,Tg,Th,Ti,Tn,To,jl,uH,B4,B5,B6,B7,B8,B9,B_,B',uG,Cb,Cc,Cd,Ce,Cf,Cg,Ci,Cj,Ck,Cm,Cn,Co,Cp,Cq,Cr,Cs,Ct,Tq,Cu,Cv,Cw,Cy,Cz,CA,CB,CC,CD,CE,CF,CG,CH,CI,CJ,CK,CL,Tv,Tw,CM,Tx,Tz,oj,om,CQ,CR,CS,CT,CU,CV,CW,CX,uJ,uK,CY,CZ,C0,TL,C2,C3,C4,C5,C6,C7,C8,C9,C_,C',Dc,Dd,De]
def Xt0:Shared->Bool:=λ_=>true
theorem TS(w:World)(os:OsState):(staticsOk (importedModules P0.main.body) (boot_heap w.params) (Hf w.params)&&namesBound P0 (Hf w.params)&&gensDone ⟨Hf w.params,#[],dr,1976,os⟩&&laidKept (boot_heap w.params) (Hf w.params))=true:=by rw[PySem.W.Fast.te5923862056798008813];kernel_rfl
theorem TU(w:World)(os:OsState):openSeen q0 oq (importedModules P0.main.body) Xt0 true ⟨Hf w.params,#[],dr,1976,os⟩=openGood q0 oq:=by rw[PySem.W.Fast.te4187177175401517315,PySem.W.Fast.te5923862056798008813];kernel_rfl
theorem E6:opening P0=plainProg P0.main.scope.names:=by kernel_rfl
theorem N_(s:Shared):fenceModules? P0 s=some s:=by kernel_rfl
abbrev N0:Nat:=20000
theorem TX:∀w:World,(fencedOpening treeTable P0 w N0).map (λs=>(s.heap,s.gens,s.drawn,s.toks))=some (boot_heap w.params,Array.mk [],boot_drawn,boot_toks):=boot_open E6 (by decide+kernel) N_
theorem TY:∀w:World,((boot_heap w.params).isNs mainGlobals&&(Array.mk []:Array GenState).size==0,(boot_heap w.params).objs.size,(boot_heap w.params).nsMap mainGlobals "__annotations__")=(true,11,yE):=by intro w;kernel_rfl
theorem TZ:LeftO P0 q0 oq Xt0 (λs=>s.heap) (λw=>Hf w.params) N0:=
 LeftO.of_pieces TX TY ID (by decide+kernel) λw=>funext λos=>looks_pair (TS w os) (looks_pair (TU w os) rfl)
def T_(s:Stmt):DefRec:=match s with
 | .FunctionDef name args body _ _ _ scope _ _ pos=>{name:=name,params:=args,body:=body,scope:=scope,pos:=pos}
 |_=>{name:="",params:=⟨[],[],none,[],[],none,[]⟩,body:=[],scope:={kind:= .function,names:=[],isGenerator:=false,isCoroutine:=false,more:=[]},pos:=default}
def d0:DefRec:=T_ (st 199)
theorem def0:defOf q0 Challenge.rw_qd0089_01.row.name=some (d0,[]):=by kernel_rfl
theorem IE:Challenge.rw_qd0089_01.row.prog.theDef Challenge.rw_qd0089_01.row.name=some (d0.params,d0.body,d0.scope):=by rw[PySem.W.Fast.te10235530238920679567];kernel_rfl
def zV:Nat->List Stmt
 |0=>P0.main.body
 |n+1=>(zV n).drop 25
abbrev Ua (m:Module) (l:List Str) (b:List Stmt):Prop:=TablesWhole.wSs TablesWhole.holds m.scope ⟨m.scope,[],l,[],none⟩ m.scope b=true
abbrev hcG (m:Module):List Str:=TablesWhole.wSs TablesWhole.gather m.scope ⟨m.scope,[],[],[],none⟩ m.scope m.body
abbrev hcM (m:Module):Bool:=TablesWhole.wModule TablesWhole.holds m
theorem Ub{m:Module}{l:List Str}(a b:List Stmt)(h:Ua m l a)(g:Ua m l b):Ua m l (a++b):=by
 induction a with
 |nil=>exact g
 |cons s r ih=>exact jJ.mpr ((jJ.mp h).imp_right ih)
abbrev EG:=Ua P0.main []
theorem Lm(k:Nat)(h:EG ((zV k).take 25))(g:EG (zV (k+1))):EG (zV k):=by rw[<-List.take_append_drop 25 (zV k)];exact Ub _ _ h g
theorem hcka:EG ((zV 0).take 25):=by kernel_rfl
theorem hckb:EG ((zV 1).take 25):=by kernel_rfl
theorem hckc:EG ((zV 2).take 25):=by kernel_rfl
theorem hckd:EG ((zV 3).take 25):=by kernel_rfl
theorem hcke:EG ((zV 4).take 25):=by kernel_rfl
theorem hckf:EG ((zV 5).take 25):=by kernel_rfl
theorem hckg:EG ((zV 6).take 25):=by kernel_rfl
theorem hckh:EG ((zV 7).take 25):=by kernel_rfl
theorem hcki:EG (zV 8):=by kernel_rfl
theorem Oa:hcG P0.main=[]:=by kernel_rfl
theorem Uc(m:Module)(l:List Str)(h1:hcG m=l)(h2:TablesWhole.noTwice m.scope=true)(h3:Ua m l m.body):hcM m=true:=by subst h1;show(true&&(TablesWhole.noTwice m.scope&&(TablesWhole.wSs TablesWhole.holds m.scope ⟨m.scope,[],hcG m,[],none⟩ m.scope m.body&&true)))=true;rw[h2,h3];rfl
theorem Ud(p:Program)(h:hcM p.main=true)(h0:p.modules=[])(h1:p.parses=[])(h2:p.harvested=[]):p.tablesWhole=true:=by unfold Program.tablesWhole TablesWhole.wProgram;rw[h0,h1,h2];show(hcM p.main&&true)=true;rw[h];rfl
theorem hcNt:TablesWhole.noTwice P0.main.scope=true:=by kernel_rfl
theorem IF:Challenge.rw_qd0089_01.row.prog.tablesWhole=true:=
 Ud P0 (Uc P0.main [] Oa hcNt (Lm 0 hcka (Lm 1 hckb (Lm 2 hckc (Lm 3 hckd (Lm 4 hcke (Lm 5 hckf (Lm 6 hckg (Lm 7 hckh hcki))))))))) rfl rfl rfl
abbrev YP0 (w:World) (h:Heap):Prop:=∀b o,(Hf w.params).get? b=some o->h.get? b=some o
theorem Dh(k:Challenge.rw_qd0089_01.row.wellSaid=true)(call:WalkO q0 oq (λ_ _=>True) YP0 Challenge.rw_qd0089_01.row.toRowW d0 [] λf vs=>PySem.call f vs):
  Challenge.rw_qd0089_01.row.Holds:=by
 refine holds_open (q:=q0) (loose:=oq) (Xt:=Xt0) (XP:=λ_ _=>True) (Yf:=λs=>s.heap) (Ya:=λw=>Hf w.params)
  (YP:=YP0) (d:=d0) (kwd:=[]) (N:=N0) TZ (λw s e b o x=>e▸x) (λw h h' y k b o x=>k _ _ (y b o x))
  (λ_ _=>trivial) (λ_ _ _ _ _=>trivial) def0 IE ?_ (λs _=>recFacts_of rfl) ?_ k ?_ ?_ ?_ call
 ·kernel_rfl
 ·rfl
 ·kernel_rfl
 ·exact⟨rfl,rfl,rfl,rfl,rfl,IF⟩
 ·w_witness2
theorem said:Challenge.rw_qd0089_01.wellSaid=true:=by
 delta OpenLaw.wellSaid
 iterate 18 (refine look_both ?_ ?_)
 delta OpenRow.wellSaid
 iterate 2 (refine look_both ?_ ?_)
 delta OpenRow.partSaid
 iterate 13 (refine look_both ?_ ?_)
 delta looksOpen
 iterate 5 (refine look_both ?_ ?_)
 all_goals as_aux_lemma=>((try rw[PySem.W.Fast.te11788848310118352699]);(try rw[PySem.W.Fast.te9807087744658564304]);(try rw[PySem.W.Fast.te12862048085361865435]);(try rw[PySem.W.Fast.te8377067652309620493]);(try rw[PySem.W.Fast.te8326940854005059898]);(try rw[PySem.W.Fast.te17119622794617984870]);(try rw[PySem.W.Fast.te17868728402115742887]);(try rw[PySem.W.Fast.te10501279942588096481]);(try rw[PySem.W.Fast.te8179353310426384613]);(try rw[PySem.W.Fast.te9558739934217749035]);(try rw[PySem.W.Fast.te16286561074155671207]);(try rw[PySem.W.Fast.te14412699480532031325]);(try rw[PySem.W.Fast.te18344453789297297638]);(try rw[PySem.W.Fast.te797321630700447069]);(try rw[PySem.W.Fast.te10792542408131684335]);(try rw[PySem.W.Fast.te12879404354523853263]);(try rw[PySem.W.Fast.te12749700546528644094]);(try rw[PySem.W.Fast.te17691160309236699985]);(try rw[PySem.W.Fast.te5923862056798008813]);(try rw[PySem.W.Fast.te13343964577679436407]);(try rw[PySem.W.Fast.te13582783067957832011]);(try rw[PySem.W.Fast.te5318747976498570220]);(try rw[PySem.W.Fast.te482687673346738481]);(try rw[PySem.W.Fast.te6984425678791042302]);(try rw[PySem.W.Fast.named_eq]);kernel_rfl)
end
section
set_option genInjectivity true in
inductive D where
 |none
 |bool (b:Bool)
 |int (i:Int)
 |str (s:List Nat)
 |tup (l:List D)
 |lst (l:List D)
 |gT (l:List (D×D))
 |cin (C:Nat)
 |oy (n:Int)
 deriving Inhabited
set_option genCtorIdx false
inductive PV where
 |d (x:D)
 |ax (n:Nat)
 |aI (n:Nat)
 deriving Inhabited
inductive MO where
 |list (l:List D)
 |dict (l:List (D×D))
 |inst (C:Nat) (fs:List (Nat×PV))
 |dead
 deriving Inhabited
inductive TO where
 |list (l:List D)
 |dict (l:List (D×D))
 |dead
 deriving Inhabited
structure PS where
 pm:List MO
 tm:List TO
abbrev Spec:=List PV->List MO->List TO->Option (PV×List MO×List TO)
set_option genCtorIdx true in
inductive mU|add|sub|mul|fdiv|mod|band|bor|pow deriving DecidableEq
set_option genCtorIdx true in
inductive sN|eq|ne|lt|le|gt|ge|is|RY|isin|eX deriving DecidableEq
set_option genCtorIdx true in
inductive BI|len|sorted|tuple|range deriving DecidableEq
mutual
inductive E where
 |lit (x:D)
 |loc (i:Nat)
 |glob (g:Nat)
 |bin (o:mU) (a b:E)
 |cmp (o:sN) (a b:E)
 |nt (a:E)
 |and (es:Es)
 |or (es:Es)
 |ite (c a b:E)
 |tup (es:Es)
 |lst (es:Es)
 |sP (kvs:Es)
 |attr (e:E) (a:Nat)
 |sub (e i:E)
 |EH (e lo hi:E)
 |call (f:Nat) (as:Es)
 |aR (e:E) (m:Nat) (as:Es)
 |new (c:Nat) (as:Es)
 |bi (b:BI) (e:E)
 |comp (elt:E) (v:Nat) (it:E) (ifs:Es)
 |bad
inductive Es where
 |nil
 |cons (e:E) (es:Es)
end
mutual
inductive S where
 |expr (e:E)
 |asg (i:Nat) (e:E)
 |dW (o:E) (a:Nat) (e:E)
 |ie (o i:E) (e:E)
 |ki (is:List Nat) (e:E)
 |wu (o:E) (a:Nat) (op:mU) (e:E)
 |ite (c:E) (a b:Ss)
 |gr (i:Nat) (it:E) (b:Ss)
 |yJ (is:List Nat) (it:E) (b:Ss)
 |mh (c:E) (b:Ss)
 |ret (e:E)
 |pass
 |cont
 |sY (o i:E)
 |yL (o lo:E)
 |bad
inductive Ss where
 |nil
 |cons (s:S) (r:Ss)
end
def ai{α β:Type}(f:α->Option β):Option α->Option β
 |some x=>f x
 |none=>none
def dy{α:Type}(x:Option α):Bool->Option α
 |true=>x
 |false=>none
def cX{α β γ:Type}(k:α->γ->Option β)(p:α×γ):Option β:=match p with
 |(x,y)=>k x y
theorem bndS{α β:Type}{f:α->Option β}{x}:ai f (some x)=f x:=rfl
theorem gdT{α:Type}{x:Option α}:dy x true=x:=rfl
theorem gdF{α:Type}{x:Option α}:dy x false=none:=rfl
theorem c1e{α β γ:Type}{k:α->γ->Option β}{x σ}:cX k (x,σ)=k x σ:=rfl
theorem noS{α:Type}{r:α}{P:Prop}(h:none=some r):P:=nomatch h
theorem aL{α β:Type}{f:α->Option β}{o r}{P:Prop}(h:ai f o=some r)(k:∀x,o=some x->f x=some r->P):P:=
 Option.rec (motive:=λo=>ai f o=some r->(∀x,o=some x->f x=some r->P)->P) (λh _=>noS h) (λx h k=>k x rfl h) o h k
theorem aF{α β γ:Type}{f:α×γ->Option β}{o r}{P:Prop}(h:ai f o=some r)(k:∀x y,o=some (x,y)->f (x,y)=some r->P):P:=aL h λx=>k x.1 x.2
theorem je{α β γ δ:Type}{f:α×γ×δ->Option β}{o r}{P:Prop}(h:ai f o=some r)(k:∀x y z,o=some (x,y,z)->f (x,y,z)=some r->P):P:=aL h λx=>k x.1 x.2.1 x.2.2
theorem gK{α β:Type}{f:α->Option β}{o r}(h:ai f o=some r):∃x,o=some x/\f x=some r:=aL h λx a b=>⟨x,a,b⟩
theorem E7{α β γ:Type}{f:α×γ->Option β}{o r}(h:ai f o=some r):∃x y,o=some (x,y)/\f (x,y)=some r:=aL h λx a b=>⟨x.1,x.2,a,b⟩
theorem Ue{α β γ δ:Type}{f:α×γ×δ->Option β}{o r}(h:ai f o=some r):∃x y z,o=some (x,y,z)/\f (x,y,z)=some r:=aL h λx a b=>⟨x.1,x.2.1,x.2.2,a,b⟩
theorem fj{α:Type}{x:Option α}{b r}(h:dy x b=some r):b=true/\x=some r:=by
 cases b with
 |true=>exact⟨rfl,h⟩
 |false=>cases h
theorem dN{α:Type}{x:Option α}{b r}{P:Prop}(h:dy x b=some r)(k:b=true->x=some r->P):P:=k (fj h).1 (fj h).2
theorem noB{P:Prop}(h:false=true):P:=nomatch h
@[elab_as_elim] theorem someE1{α:Type}{a c:α}{P:α->Prop}(q:some a=some c)(h:P a):P c:=by cases q;exact h
@[elab_as_elim] theorem someE2{α β:Type}{a c:α}{b d:β}{P:α->β->Prop}(q:some (a,b)=some (c,d))(h:P a b):P c d:=Eq.rec (motive:=λp _=>P p.1 p.2) h (fh q)
@[elab_as_elim] theorem someE3{α β γ:Type}{a c:α}{b d:β}{e f:γ}{P:α->β->γ->Prop}(q:some (a,b,e)=some (c,d,f))(h:P a b e):P c d f:=Eq.rec (motive:=λp _=>P p.1 p.2.1 p.2.2) h (fh q)
def EI(s:List Nat):Bool:=s.all λc=>Nat.blt c 1114112
def fits{α:Type}(l:List α):Bool:=Nat.ble l.length 1000000
def j_:D->Bool
 | .none=>true
 |_=>false
def eqBo(a:Bool):D->Bool
 | .bool b=>a==b
 | .int j=>(if a then 1 else 0)==j
 |_=>false
def eqI(i:Int):D->Bool
 | .int b=>i==b
 | .bool b=>i==(if b then 1 else 0)
 |_=>false
def eqS(a:List Nat):D->Bool
 | .str b=>a==b
 |_=>false
def eqT(f:List D->Bool):D->Bool
 | .tup b=>f b
 |_=>false
def eqL(f:List D->Bool):D->Bool
 | .lst b=>f b
 |_=>false
def eqC(f:D->Bool)(g:List D->Bool):List D->Bool
 |[]=>false
 |b::t=>f b&&g t
mutual
noncomputable def bc:D->D->Bool
 | .none=>j_
 | .bool a=>eqBo a
 | .int a=>eqI a
 | .str a=>eqS a
 | .tup a=>eqT (kc a)
 | .lst a=>eqL (kc a)
 | .gT _=>λ_=>false
 | .cin _=>λ_=>false
 | .oy _=>λ_=>false
noncomputable def kc:List D->List D->Bool
 |[]=>List.isEmpty
 |a::r=>eqC (bc a) (kc r)
end
mutual
noncomputable def dj:D->Nat
 | .tup l=>dY l+1
 | .lst l=>dY l+1
 | .none=>0
 | .bool _=>0
 | .int _=>0
 | .str _=>0
 | .gT _=>0
 | .cin _=>0
 | .oy _=>0
noncomputable def dY:List D->Nat
 |[]=>0
 |a::r=>max (dj a) (dY r)
end
mutual
noncomputable def qv:D->Bool
 | .none=>true
 | .bool _=>true
 | .int _=>true
 | .str _=>true
 | .tup l=>lN l
 | .lst l=>lN l
 | .gT _=>false
 | .cin _=>false
 | .oy _=>false
noncomputable def lN:List D->Bool
 |[]=>true
 |a::r=>qv a&&lN r
end
def Di(a b:D):Option Bool:=dy (some (bc a b)) (qv a&&qv b&&Nat.ble (min (dj a) (dj b)) 50)
def memD(x:D)(l:List D):Option Bool:=dy (some (l.any λy=>bc y x)) (qv x&&lN l&&Nat.ble (min (dY l) (dj x)) 50)
def yM:D->Option Bool
 | .none=>some false
 | .bool b=>some b
 | .int i=>some (!(i==0))
 | .lst l=>dy (some (!l.isEmpty)) (fits l)
 |_=>none
def kyT(f:Nat->Bool):Nat->Bool
 |0=>false
 |n+1=>f n
mutual
noncomputable def kyO:D->Nat->Bool
 | .int _=>λ_=>true
 | .str _=>λ_=>true
 | .tup l=>kyT (E8 l)
 | .none=>λ_=>false
 | .bool _=>λ_=>false
 | .lst _=>λ_=>false
 | .gT _=>λ_=>false
 | .cin _=>λ_=>false
 | .oy _=>λ_=>false
noncomputable def E8:List D->Nat->Bool
 |[]=>λ_=>true
 |a::r=>λn=>kyO a n&&E8 r n
end
def iw(n:Nat)(d:D):Bool:=kyO d n
def uL(n:Nat)(l:List D):Bool:=E8 l n
def keyOk(d:D):Bool:=iw 6 d
def cy:D->Nat
 | .int _=>1
 | .str _=>2
 | .tup _=>3
 |_=>0
def kA(k:D):List (D×D)->Option D
 |[]=>none
 |(a,v)::r=>if bc k a then some v else kA k r
def fM(k:D):List (D×D)->Bool
 |[]=>false
 |(a,_)::r=>bc k a||fM k r
def dput(k v:D):List (D×D)->List (D×D)
 |[]=>[(k,v)]
 |(a,u)::r=>if bc k a then(a,v)::r else(a,u)::dput k v r
theorem uM{k v a u:D}{r:List (D×D)}:dput k v ((a,u)::r)=if bc k a then(a,v)::r else(a,u)::dput k v r:=rfl
def mi(k:D):List (D×D)->List (D×D)
 |[]=>[]
 |(a,u)::r=>if bc k a then r else(a,u)::mi k r
def jm(k:D)(l:List (D×D)):Bool:=keyOk k&&match l with
 |[]=>true
 |p::_=>Nat.beq (cy p.1) (cy k)
def jn(l:List (D×D)):Bool:=match l with
 |[]=>true
 |p::_=>Nat.ble (cy p.1) 2
structure kj (l:List (D×D)):Prop where
 key:∀p∈l,keyOk p.1=true
 kind:∀p∈l,∀q∈l,cy p.1=cy q.1
 apart:l.Pairwise λp q=>bc p.1 q.1=false
def ioC(i:Int)(l:List Int):Option (List Int):=some (i::l)
def ioK(o:Option (List Int)):D->Option (List Int)
 | .int i=>ai (ioC i) o
 |_=>none
def intsOf:List D->Option (List Int)
 |[]=>some []
 |a::r=>ioK (intsOf r) a
def insI(x:Int):List Int->List Int
 |[]=>[x]
 |y::r=>if x<=y then x::y::r else y::insI x r
def sortI:List Int->List Int
 |[]=>[]
 |x::r=>insI x (sortI r)
def big:Int:=4611686018427387904
def small(i:Int):Bool:=Nat.blt i.natAbs 4611686018427387904
theorem Ug{i:Int}{b:Nat}:i.natAbs<b<->-(b:Int)<i/\i<b:=by
 cases i with
 |ofNat n=>exact⟨λh=>⟨Int.lt_of_lt_of_le (Int.neg_neg_of_pos (pX.mpr (Nat.zero_lt_of_lt h))) (sT n),pX.mpr h⟩,λh=>pX.mp h.2⟩
 |negSucc n=>exact⟨λh=>⟨Int.neg_lt_neg (pX.mpr h),Int.lt_trans (Int.negSucc_lt_zero n) (pX.mpr (Nat.zero_lt_of_lt h))⟩,λh=>pX.mp (Int.lt_of_neg_lt_neg h.1)⟩
theorem oA{i:Int}:small i=true<->-big<i/\i<big:=by unfold small;rw[Nat.blt_eq];exact Ug
def qV(l:List D)(lo hi:D):Option (List D):=
 match (match lo with| .none=>some 0| .int i=>if 0<=i&&small i then some (min i.toNat l.length)else none|_=>none),
  (match hi with| .none=>some l.length| .int i=>if 0<=i&&small i then some (min i.toNat l.length)else none|_=>none)with
 |some a,some b=>some ((l.drop a).take (b-a))
 |_,_=>none
def arith:mU->Int->Int->Option Int
 | .add,a,b=>some (a+b)
 | .sub,a,b=>some (a-b)
 | .mul,a,b=>dy (some (a*b)) (small a&&small b)
 | .fdiv,a,b=>dy (some (Int.fdiv a b)) (0<b&&b<1073741824)
 | .mod,a,b=>dy (some (Int.fmod a b)) (0<b)
 | .band,a,b=>dy (some ((a.toNat&&&b.toNat:Nat))) (0<=a&&0<=b)
 | .bor,a,b=>dy (some ((a.toNat|||b.toNat:Nat))) (0<=a&&0<=b)
 | .pow,a,b=>dy (some ((2^b.toNat:Nat))) (a==2&&0<=b&&b<60)
def frK(σ:PS)(n:Nat):TO->Option (D×PS)
 | .list l=>some (.lst l,⟨σ.pm,σ.tm.set n .dead⟩)
 | .dict l=>some (.gT l,⟨σ.pm,σ.tm.set n .dead⟩)
 | .dead=>none
def Uh(x:D)(xs:List D)(σ:PS):Option (List D×PS):=some (x::xs,σ)
def fzK(f:PS->Option (List D×PS))(x:D)(σ:PS):Option (List D×PS):=ai (cX (Uh x)) (f σ)
def stK(σ:PS)(n:Nat):TO->Option (PV×PS)
 | .list l=>some (.ax σ.pm.length,⟨σ.pm++[.list l],σ.tm.set n .dead⟩)
 | .dict l=>some (.ax σ.pm.length,⟨σ.pm++[.dict l],σ.tm.set n .dead⟩)
 | .dead=>none
def Ui:TO->Option (List D)
 | .list l=>some l
 |_=>none
def IG:MO->Option (List D)
 | .list l=>some l
 |_=>none
def Uj:TO->Option (List (D×D))
 | .dict l=>some l
 |_=>none
def Ln:MO->Option (List (D×D))
 | .dict l=>some l
 |_=>none
def Lp(σ:PS)(n:Nat)(x:TO){α:Type}(_:α):Option PS:=some ⟨σ.pm,σ.tm.set n x⟩
def Lq(σ:PS)(n:Nat)(x:MO){α:Type}(_:α):Option PS:=some ⟨σ.pm.set n x,σ.tm⟩
namespace PS
def freeze(σ:PS):PV->Option (D×PS)
 | .d x=>some (x,σ)
 | .ax _=>none
 | .aI n=>ai (frK σ n) σ.tm[n]?
def lj(σ:PS):List PV->Option (List D×PS)
 |[]=>some ([],σ)
 |v::r=>ai (cX (fzK λs=>lj s r)) (σ.freeze v)
def sZ(σ:PS)(l:List D):Option (PV×PS):=dy (some (.aI σ.tm.length,⟨σ.pm,σ.tm++[.list l]⟩)) (fits l)
def newD(σ:PS)(l:List (D×D)):Option (PV×PS):=some (.aI σ.tm.length,⟨σ.pm,σ.tm++[.dict l]⟩)
def eV(σ:PS):PV->Option (PV×PS)
 | .d x=>some (.d x,σ)
 | .ax n=>some (.ax n,σ)
 | .aI n=>ai (stK σ n) σ.tm[n]?
def listOf(σ:PS):PV->Option (List D)
 | .d (.lst l)=>some l
 | .aI n=>ai Ui σ.tm[n]?
 | .ax n=>ai IG σ.pm[n]?
 |_=>none
def dictOf(σ:PS):PV->Option (List (D×D))
 | .d (.gT l)=>some l
 | .aI n=>ai Uj σ.tm[n]?
 | .ax n=>ai Ln σ.pm[n]?
 |_=>none
def lx(σ:PS)(l:List D):PV->Option PS
 | .aI n=>ai (Lp σ n (.list l)) (ai Ui σ.tm[n]?)
 | .ax n=>ai (Lq σ n (.list l)) (ai IG σ.pm[n]?)
 |_=>none
def uN(σ:PS)(l:List (D×D)):PV->Option PS
 | .aI n=>ai (Lp σ n (.dict l)) (ai Uj σ.tm[n]?)
 | .ax n=>ai (Lq σ n (.dict l)) (ai Ln σ.pm[n]?)
 |_=>none
end PS
theorem insI_perm(x:Int):∀l,(insI x l).Perm (x::l)
 |[]=> .refl _
 |y::r=>by
  dsimp only[insI];split
  ·exact .refl _
  ·exact((insI_perm x r).cons y).trans (.swap x y r)
theorem sortI_perm:∀l,(sortI l).Perm l
 |[]=> .refl _
 |x::r=>(insI_perm x _).trans ((sortI_perm r).cons x)
set_option genCtorIdx true in
inductive Fl where
 |next|cont|ret (v:PV)
structure Cx where
 glob:Nat->Option D
 fn:Nat->Spec
 aR:Nat->Nat->Option Nat
 new:Nat->Spec
 fuel:Nat
abbrev Ls:=List (Option PV)
def eY:List PV->Nat->List PV×List Nat
 |[],_=>([],[])
 | .aI n::r,k=>(.aI k::(eY r (k+1)).1,n::(eY r (k+1)).2)
 | .d x::r,k=>(.d x::(eY r k).1,(eY r k).2)
 | .ax n::r,k=>(.ax n::(eY r k).1,(eY r k).2)
def distinct:List Nat->Bool
 |[]=>true
 |n::r=>!(r.any λm=>Nat.beq n m)&&distinct r
def tkK(t:TO)(ts:List TO):Option (List TO):=match t with
 | .dead=>none
 |t=>some (t::ts)
def Uk(o:Option (List TO))(t:TO):Option (List TO):=ai (tkK t) o
def wx(tm:List TO):List Nat->Option (List TO)
 |[]=>some []
 |n::o=>ai (Uk (wx tm o)) tm[n]?
def ptN{α β:Type}(x:β):List α->Option β
 |[]=>some x
 |_::_=>none
def ptC{α β:Type}(f:α->List α->Option β):List α->Option β
 |[]=>none
 |t::ts=>f t ts
def E9(tm:List TO):List Nat->List TO->Option (List TO)
 |[],l=>ptN tm l
 |n::o,l=>ptC (λt ts=>E9 (tm.set n t) o ts) l
def dc3(v:PV)(pm:List MO)(tm:List TO):Option (PV×PS):=some (v,⟨pm,tm⟩)
def dc2(σ:PS)(o:List Nat)(v:PV)(p:List MO×List TO):Option (PV×PS):=match v with
 | .aI _=>none
 |v=>ai (dc3 v p.1) (E9 σ.tm o p.2)
def dc1(sp:Spec)(σ:PS)(a:List PV)(o:List Nat)(ts:List TO):Option (PV×PS):=ai (cX (dc2 σ o)) (sp a σ.pm ts)
def cJ(sp:Spec)(args:List PV)(σ:PS):Option (PV×PS):=
 dy (ai (dc1 sp σ (eY args 0).1 (eY args 0).2) (wx σ.tm (eY args 0).2)) (distinct (eY args 0).2)
def p6(a:Nat):List (Nat×PV)->Option PV
 |[]=>none
 |p::r=>match Nat.beq a p.1 with
  |true=>some p.2
  |false=>p6 a r
def s7(a:Nat)(v:PV):List (Nat×PV)->List (Nat×PV)
 |[]=>[(a,v)]
 |p::r=>match Nat.beq a p.1 with
  |true=>(a,v)::r
  |false=>p::s7 a v r
def fwC(f:Nat->Bool):Nat->Bool
 |0=>false
 |n+1=>f n
def wy{α:Type}:List α->Nat->Bool
 |[]=>λ_=>true
 |_::r=>fwC (wy r)
theorem IH{α:Type}:∀{l:List α} {n:Nat},wy l n=true->l.length<=n:=by
 intro l;induction l with
 |nil=>intro n _;exact eJ n
 |cons a r ih=>
  intro n h;cases n with
  |zero=>cases h
  |succ n=>exact oh (ih h)
def gaK(a:Nat):MO->Option PV
 | .inst _ fs=>p6 a fs
 |_=>none
def X0(σ:PS)(n a:Nat)(v:PV):MO->Option PS
 | .inst C fs=>dy (some ⟨σ.pm.set n (.inst C (s7 a v fs)),σ.tm⟩) (wy fs 100)
 |_=>none
def toD:TO->Option D
 | .list l=>some (.lst l)
 | .dict l=>some (.gT l)
 |_=>none
def H0:MO->Option D
 | .list l=>some (.lst l)
 | .dict l=>some (.gT l)
 |_=>none
def s8(x:D):Option PV:=some (.d x)
def idxT(l:List D)(j:Int):Bool->Option PV
 |true=>ai s8 l[j.toNat]?
 |false=>dy (ai s8 l[(j+l.length).toNat]?) (0<=j+l.length)
def idxU(l:List D):D->Option PV
 | .int j=>dy (idxT l j (decide (0<=j))) (small j)
 |_=>none
def idxL(l:List D):D->Option PV
 | .int j=>dy (ai s8 l[j.toNat]?) (small j&&decide (0<=j))
 |_=>none
def Dj(k:D):D->Option PV
 | .tup l=>idxU l k
 | .lst l=>idxL l k
 | .gT l=>dy (ai s8 (kA k l)) (jm k l)
 |_=>none
namespace PS
def E_(σ:PS)(v:PV)(a:Nat):Option PV:=match v with
 | .ax n=>ai (gaK a) σ.pm[n]?
 |_=>none
def wz(σ:PS)(o:PV)(a:Nat)(v:PV):Option PS:=match o with
 | .ax n=>match v with
  | .aI _=>none
  |v=>ai (X0 σ n a v) σ.pm[n]?
 |_=>none
def pA(σ:PS):PV->Option D
 | .d x=>some x
 | .aI n=>ai toD σ.tm[n]?
 | .ax n=>ai H0 σ.pm[n]?
def truth(σ:PS)(v:PV):Option Bool:=ai yM (σ.pA v)
def wA(σ:PS)(o i:PV):Option PV:=match i with
 | .d k=>ai (Dj k) (σ.pA o)
 |_=>none
def slK(σ:PS)(l:List D)(r:List D):Option (PV×PS):=dy (σ.sZ r) (fits l)
def slD(σ:PS)(lo hi:D):D->Option (PV×PS)
 | .tup l=>match lo,hi with
  | .int i,.none=>dy (some (.d (.tup (l.drop i.toNat)),σ)) (decide (1<=i)&&decide (i<=l.length)&&fits l)
  |_,_=>none
 | .lst l=>ai (slK σ l) (qV l lo hi)
 |_=>none
def slice(σ:PS)(o lo hi:PV):Option (PV×PS):=match lo,hi with
 | .d a,.d b=>ai (slD σ a b) (σ.pA o)
 |_,_=>none
def siK(σ:PS)(o:PV)(k v:D)(l:List (D×D)):Option PS:=dy (σ.uN (dput k v l) o) (jm k l&&fits l)
def Dk(σ:PS)(o:PV)(k v:D):Option PS:=ai (siK σ o k v) (σ.dictOf o)
def diK(σ:PS)(o:PV)(k:D)(l:List (D×D)):Option PS:=dy (σ.uN (mi k l) o) (jm k l&&fM k l&&fits l)
def II(σ:PS)(o:PV)(k:D):Option PS:=ai (diK σ o k) (σ.dictOf o)
def dtK(σ:PS)(o:PV)(i:Int)(l:List D):Option PS:=dy (σ.lx (l.take i.toNat) o) (decide (0<=i)&&small i&&fits l)
def qw(σ:PS)(o:PV)(lo:D):Option PS:=match lo with
 | .int i=>ai (dtK σ o i) (σ.listOf o)
 |_=>none
end PS
def Ob:sN->Int->Int->Option Bool
 | .lt,a,b=>some (decide (a<b))
 | .le,a,b=>some (decide (a<=b))
 | .gt,a,b=>some (decide (b<a))
 | .ge,a,b=>some (decide (b<=a))
 |_,_,_=>none
def X3(k:D):D->Option Bool
 | .tup l=>memD k l
 | .lst l=>memD k l
 | .gT l=>dy (some (fM k l)) (jm k l)
 |_=>none
def isIn(σ:PS)(x y:PV):Option Bool:=match x with
 | .d k=>ai (X3 k) (σ.pA y)
 |_=>none
def Ul(b:Option D)(x:D):Option Bool:=ai (Di x) b
def isEq(σ:PS)(x y:PV):Option Bool:=ai (Ul (σ.pA y)) (σ.pA x)
def isNone(x:PV):Bool:=match x with
 | .d .none=>true
 |_=>false
def Dl(b:Bool):Option Bool:=some (!b)
def Oc(o:sN)(x y:PV):Option Bool:=match x with
 | .d (.int a)=>match y with
  | .d (.int b)=>Ob o a b
  |_=>none
 |_=>none
def compare(o:sN)(x y:PV)(σ:PS):Option Bool:=match o with
 | .eq=>isEq σ x y
 | .ne=>ai Dl (isEq σ x y)
 | .is=>dy (some (isNone x)) (isNone y)
 | .RY=>dy (some (!isNone x)) (isNone y)
 | .isin=>isIn σ x y
 | .eX=>ai Dl (isIn σ x y)
 |o=>Oc o x y
def cR(σ:PS)(r:PV):Option (PV×PS):=some (r,σ)
def cI(σ:PS)(i:Int):Option (PV×PS):=some (.d (.int i),σ)
def cB(σ:PS)(b:Bool):Option (PV×PS):=some (.d (.bool b),σ)
def cN(σ:PS)(b:Bool):Option (PV×PS):=some (.d (.bool !b),σ)
def Um(o:mU)(σ:PS)(x y:D):Option (PV×PS):=match x with
 | .int a=>match y with
  | .int b=>ai (cI σ) (arith o a b)
  |_=>none
 | .tup a=>match y with
  | .tup b=>match o with
   | .add=>dy (some (.d (.tup (a++b)),σ)) (fits (a++b))
   |_=>none
  |_=>none
 | .lst a=>match y with
  | .lst b=>match o with
   | .add=>σ.sZ (a++b)
   |_=>none
  |_=>none
 |_=>none
def Od(o:mU)(σ:PS)(y:Option D)(x:D):Option (PV×PS):=ai (Um o σ x) y
def binop(o:mU)(x y:PV)(σ:PS):Option (PV×PS):=ai (Od o σ (σ.pA y)) (σ.pA x)
def Un(σ:PS):D->Option (PV×PS)
 | .tup l=>dy (some (.d (.int l.length),σ)) (fits l)
 | .lst l=>dy (some (.d (.int l.length),σ)) (fits l)
 | .gT l=>dy (some (.d (.int l.length),σ)) (fits l&&jn l)
 |_=>none
def soK(σ:PS)(is:List Int):Option (PV×PS):=dy (σ.sZ ((sortI is).map .int)) (Nat.blt is.length 64)
def Uo(σ:PS):D->Option (PV×PS)
 | .gT l=>ai (soK σ) (intsOf (l.map (·.1)))
 |_=>none
def tuK(σ:PS):D->Option (PV×PS)
 | .lst l=>dy (some (.d (.tup l),σ)) (fits l)
 |_=>none
def builtin(b:BI)(v:PV)(σ:PS):Option (PV×PS):=match b with
 | .len=>ai (Un σ) (σ.pA v)
 | .sorted=>ai (Uo σ) (σ.pA v)
 | .tuple=>ai (tuK σ) (σ.pA v)
 | .range=>match v with
  | .d (.int n)=>dy (some (.d (.oy n),σ)) (decide (0<=n)&&decide (n<1000000))
  |_=>none
inductive Lock where
 |none
 |aI (n:Nat) (t:TO)
 |ax (n:Nat) (m:MO)
def ioT(σ:PS)(n:Nat):TO->Option (List D×PS×Lock)
 | .list l=>some (l,⟨σ.pm,σ.tm.set n .dead⟩,.aI n (.list l))
 | .dict l=>dy (some (l.map (·.1),⟨σ.pm,σ.tm.set n .dead⟩,.aI n (.dict l))) (jn l)
 |_=>none
def ioP(σ:PS)(n:Nat):MO->Option (List D×PS×Lock)
 | .list l=>some (l,⟨σ.pm.set n .dead,σ.tm⟩,.ax n (.list l))
 |_=>none
def ioD(σ:PS):D->Option (List D×PS×Lock)
 | .lst l=>some (l,σ,.none)
 | .tup l=>some (l,σ,.none)
 | .gT l=>dy (some (l.map (·.1),σ,.none)) (jn l)
 | .oy n=>dy (some ((List.range n.toNat).map λ(i:Nat)=>D.int i,σ,.none)) (decide (0<=n)&&decide (n<1000000))
 | .none=>none
 | .bool _=>none
 | .int _=>none
 | .str _=>none
 | .cin _=>none
def dZ(σ:PS):PV->Option (List D×PS×Lock)
 | .d x=>ioD σ x
 | .aI n=>ai (ioT σ n) σ.tm[n]?
 | .ax n=>ai (ioP σ n) σ.pm[n]?
def itClose(σ:PS):Lock->PS
 | .none=>σ
 | .aI n t=>⟨σ.pm,σ.tm.set n t⟩
 | .ax n m=>⟨σ.pm.set n m,σ.tm⟩
def mV:Nat:=0
def E':Nat:=1
def IJ:Nat:=2
def yN(m:Nat):Option D->Bool
 |some (.lst _)=>Nat.beq m mV||Nat.beq m E'
 |some (.gT _)=>Nat.beq m IJ
 |_=>false
def Up(σ:PS):Option (PV×PS):=some (.d .none,σ)
def apK(σ:PS)(v:PV)(d:D)(l:List D):Option (PV×PS):=dy (ai Up (σ.lx (l++[d]) v)) (fits l)
def apD(v:PV)(d:D)(σ:PS):Option (PV×PS):=ai (apK σ v d) (σ.listOf v)
def retD(d:D)(σ:PS):Option (PV×PS):=some (.d d,σ)
def poK(σ:PS)(v:PV)(l:List D)(d:D):Option (PV×PS):=dy (ai (retD d) (σ.lx l.dropLast v)) (fits l)
def poD(σ:PS)(v:PV)(l:List D):Option (PV×PS):=ai (poK σ v l) l.getLast?
def X4(σ:PS)(k e:D)(l:List (D×D)):Option (PV×PS):=dy (some (.d ((kA k l).getD e),σ)) (jm k l)
def hN(m:Nat)(v:PV)(args:List PV)(σ:PS):Option (PV×PS):=match Nat.beq m mV with
 |true=>match args with
  |[x]=>ai (cX (apD v)) (σ.freeze x)
  |_=>none
 |false=>match Nat.beq m E' with
  |true=>match args with
   |[]=>ai (poD σ v) (σ.listOf v)
   |_=>none
  |false=>match Nat.beq m IJ with
   |true=>match args with
    |[.d k]=>ai (X4 σ k .none) (σ.dictOf v)
    |[.d k,.d e]=>ai (X4 σ k e) (σ.dictOf v)
    |_=>none
   |false=>none
def Fb:MO->Option Nat
 | .inst C _=>some C
 |_=>none
def inD:D->Option Nat
 | .cin C=>some C
 |_=>none
def gh(σ:PS):PV->Option Nat
 | .ax n=>ai Fb σ.pm[n]?
 | .d x=>inD x
 | .aI _=>none
def Dm{α β:Type}(a b:α->PS->Option β)(x:α)(c:Bool)(σ:PS):Option β:=match c with
 |true=>a x σ
 |false=>b x σ
def coY(y:D)(ys:List D)(σ:PS):Option (List D×PS):=some (y::ys,σ)
def coR(rest:PS->Option (List D×PS))(y:D)(σ:PS):Option (List D×PS):=ai (cX (coY y)) (rest σ)
def coE(rest:PS->Option (List D×PS))(e:PV)(σ:PS):Option (List D×PS):=ai (cX (coR rest)) (σ.freeze e)
def coT(elt:Ls->PS->Option (PV×PS))(rest:PS->Option (List D×PS))(ls:Ls)(σ:PS):Option (List D×PS):=ai (cX (coE rest)) (elt ls σ)
def dm(tests:Ls->PS->Option (Bool×PS))(elt:Ls->PS->Option (PV×PS))(v:Nat):List D->Ls->PS->Option (List D×PS)
 |[],_,σ=>some ([],σ)
 |x::r,ls,σ=>ai (cX (Dm (coT elt λs=>dm tests elt v r ls s) (λ_ s=>dm tests elt v r ls s) (ls.set v (some (.d x))))) (tests (ls.set v (some (.d x))) σ)
def dic2(k v:D):List D->Option (List (D×D))
 |[]=>dy (some [(k,v)]) (keyOk k)
 |_::_=>none
def dic1(k:D):List D->Option (List (D×D))
 |[]=>none
 |v::r=>dic2 k v r
def Lr:List D->Option (List (D×D))
 |[]=>some []
 |k::r=>dic1 k r
abbrev FE:=Ls->PS->Option (PV×PS)
abbrev FT:=Ls->PS->Option (Bool×PS)
abbrev FS:=Ls->PS->Option (List PV×PS)
def p7{α β γ:Type}(f:Ls->PS->Option (β×PS))(ls:Ls)(k:α->β->PS->Option γ)(x:α)(σ:PS):Option γ:=ai (cX (k x)) (f ls σ)
def Oe(σ:PS):Option PV->Option (PV×PS)
 |some v=>some (v,σ)
 |none=>none
def glK(σ:PS)(x:D):Option (PV×PS):=some (.d x,σ)
def Uq(o:sN)(x y:PV)(σ:PS):Option (PV×PS):=ai (cB σ) (compare o x y σ)
def ntK(x:PV)(σ:PS):Option (PV×PS):=ai (cN σ) (σ.truth x)
def bT(σ:PS)(b:Bool):Option (Bool×PS):=some (b,σ)
def Of(x:PV)(σ:PS):Option (Bool×PS):=ai (bT σ) (σ.truth x)
def km(f:FE):FE×FT:=(f,λls σ=>ai (cX Of) (f ls σ))
def negK(b:Bool)(σ:PS):Option (Bool×PS):=some (!b,σ)
def Ur(xs:List D)(σ:PS):Option (PV×PS):=dy (some (.d (.tup xs),σ)) (fits xs)
def lstF(xs:List D)(σ:PS):Option (PV×PS):=σ.sZ xs
def Us(xs:List D)(σ:PS):Option (PV×PS):=ai σ.newD (Lr xs)
def RZ(k:List D->PS->Option (PV×PS))(vs:List PV)(σ:PS):Option (PV×PS):=ai (cX k) (σ.lj vs)
def Lu(a:Nat)(v:PV)(σ:PS):Option (PV×PS):=ai (cR σ) (σ.E_ v a)
def Ut(v k:PV)(σ:PS):Option (PV×PS):=ai (cR σ) (σ.wA v k)
def sl2(v a b:PV)(σ:PS):Option (PV×PS):=σ.slice v a b
def sl1(hi:FE)(ls:Ls)(v a:PV)(σ:PS):Option (PV×PS):=p7 hi ls (sl2 v) a σ
def meC(X:Cx)(v:PV)(f:Nat)(vs:List PV)(σ:PS):Option (PV×PS):=cJ (X.fn f) (v::vs) σ
def meF(X:Cx)(as:FS)(ls:Ls)(v:PV)(σ:PS)(f:Nat):Option (PV×PS):=ai (cX (meC X v f)) (as ls σ)
def R8(X:Cx)(m:Nat)(as:FS)(ls:Ls)(v:PV)(σ:PS):Option Nat->Option (PV×PS)
 |some C=>ai (meF X as ls v σ) (X.aR C m)
 |none=>dy (ai (cX (hN m v)) (as ls σ)) (yN m (σ.pA v))
def Lv(X:Cx)(m:Nat)(as:FS)(ls:Ls)(v:PV)(σ:PS):Option (PV×PS):=R8 X m as ls v σ (gh σ v)
def coL(ts:FT)(el:FE)(v:Nat)(ls:Ls)(items:List D)(p:PS×Lock):Option (PV×PS):=ai (cX λys bJ=>(itClose bJ p.2).sZ ys) (dm ts el v items ls p.1)
def coK(ts:FT)(el:FE)(v:Nat)(ls:Ls)(x:PV)(σ:PS):Option (PV×PS):=ai (cX (coL ts el v ls)) (dZ σ x)
def Uu(v:PV)(vs:List PV)(σ:PS):Option (List PV×PS):=some (v::vs,σ)
def anB(f:FE)(ls:Ls)(v:PV)(σ:PS):Bool->Option (PV×PS)
 |true=>f ls σ
 |false=>some (v,σ)
def orB(f:FE)(ls:Ls)(v:PV)(σ:PS):Bool->Option (PV×PS)
 |true=>some (v,σ)
 |false=>f ls σ
def anK(f:FE)(ls:Ls)(v:PV)(σ:PS):Option (PV×PS):=ai (anB f ls v σ) (σ.truth v)
def orK(f:FE)(ls:Ls)(v:PV)(σ:PS):Option (PV×PS):=ai (orB f ls v σ) (σ.truth v)
def okT(b:Bool){α:Type}(_:α)(σ:PS):Option (Bool×PS):=some (b,σ)
structure Fs where
 al:FS
 an:FE
 or:FE
 ta:FT
 to:FT
mutual
noncomputable def ly (X:Cx):E->FE×FT
 | .lit x=>km λ_ σ=>some (.d x,σ)
 | .loc i=>km λls σ=>ai (Oe σ) ls[i]?
 | .glob g=>km λ_ σ=>ai (glK σ) (X.glob g)
 | .bin o a b=>km λls σ=>ai (cX (p7 (ly X b).1 ls (binop o))) ((ly X a).1 ls σ)
 | .cmp o a b=>km λls σ=>ai (cX (p7 (ly X b).1 ls (Uq o))) ((ly X a).1 ls σ)
 | .nt a=>(λls σ=>ai (cX ntK) ((ly X a).1 ls σ),λls σ=>ai (cX negK) ((ly X a).2 ls σ))
 | .and es=>((jf X es).an,(jf X es).ta)
 | .or es=>((jf X es).or,(jf X es).to)
 | .ite c a b=>(λls σ=>ai (cX (Dm (ly X a).1 (ly X b).1 ls)) ((ly X c).2 ls σ),λls σ=>ai (cX (Dm (ly X a).2 (ly X b).2 ls)) ((ly X c).2 ls σ))
 | .tup es=>km λls σ=>ai (cX (RZ Ur)) ((jf X es).al ls σ)
 | .lst es=>km λls σ=>ai (cX (RZ lstF)) ((jf X es).al ls σ)
 | .sP es=>km λls σ=>ai (cX (RZ Us)) ((jf X es).al ls σ)
 | .attr e a=>km λls σ=>ai (cX (Lu a)) ((ly X e).1 ls σ)
 | .sub e i=>km λls σ=>ai (cX (p7 (ly X i).1 ls Ut)) ((ly X e).1 ls σ)
 | .EH e lo hi=>km λls σ=>ai (cX (p7 (ly X lo).1 ls (sl1 (ly X hi).1 ls))) ((ly X e).1 ls σ)
 | .call f as=>km λls σ=>ai (cX (cJ (X.fn f))) ((jf X as).al ls σ)
 | .aR e m as=>km λls σ=>ai (cX (Lv X m (jf X as).al ls)) ((ly X e).1 ls σ)
 | .new c as=>km λls σ=>ai (cX (cJ (X.new c))) ((jf X as).al ls σ)
 | .bi b e=>km λls σ=>ai (cX (builtin b)) ((ly X e).1 ls σ)
 | .comp elt v it ifs=>km λls σ=>ai (cX (coK (jf X ifs).ta (ly X elt).1 v ls)) ((ly X it).1 ls σ)
 | .bad=>km λ_ _=>none
noncomputable def jf (X:Cx):Es->Fs
 | .nil=>⟨λ_ σ=>some ([],σ),λ_ _=>none,λ_ _=>none,λ_ σ=>some (true,σ),λ_ σ=>some (false,σ)⟩
 | .cons e es=>⟨λls σ=>ai (cX (p7 (jf X es).al ls Uu)) ((ly X e).1 ls σ),
  λls σ=>match es with
  | .nil=>(ly X e).1 ls σ
  | .cons _ _=>ai (cX (anK (jf X es).an ls)) ((ly X e).1 ls σ),
  λls σ=>match es with
  | .nil=>(ly X e).1 ls σ
  | .cons _ _=>ai (cX (orK (jf X es).or ls)) ((ly X e).1 ls σ),
  λls σ=>ai (cX (Dm (jf X es).ta (okT false) ls)) ((ly X e).2 ls σ),
  λls σ=>ai (cX (Dm (okT true) (jf X es).to ls)) ((ly X e).2 ls σ)⟩
end
def eval(X:Cx)(e:E):FE:=(ly X e).1
def test(X:Cx)(e:E):FT:=(ly X e).2
def iX(X:Cx)(es:Es):FS:=(jf X es).al
def zW(X:Cx)(es:Es):FE:=(jf X es).an
def Og(X:Cx)(es:Es):FE:=(jf X es).or
def cx(X:Cx)(es:Es):FT:=(jf X es).ta
def Fc(X:Cx)(es:Es):FT:=(jf X es).to
def Fd:D->Bool
 | .none=>true
 | .bool _=>true
 | .int _=>true
 | .str _=>true
 |_=>false
def X5(rest:Ls->PS->Option (Fl×Ls×PS)):Fl->Ls×PS->Option (Fl×Ls×PS)
 | .ret v,p=>some (.ret v,p)
 | .next,p=>rest p.1 p.2
 | .cont,p=>rest p.1 p.2
def Uv(body rest:Ls->PS->Option (Fl×Ls×PS))(σ:PS)(ls:Ls):Option (Fl×Ls×PS):=ai (cX (X5 rest)) (body ls σ)
def dO(body:Ls->PS->Option (Fl×Ls×PS))(put:D->Ls->Option Ls):List D->Ls->PS->Option (Fl×Ls×PS)
 |[],ls,σ=>some (.next,ls,σ)
 |x::r,ls,σ=>ai (Uv body (dO body put r) σ) (put x ls)
def whT(body rest:Ls->PS->Option (Fl×Ls×PS))(ls:Ls):Bool->PS->Option (Fl×Ls×PS)
 |false,σ=>some (.next,ls,σ)
 |true,σ=>Uv body rest σ ls
def jL(km:Ls->PS->Option (Bool×PS))(body:Ls->PS->Option (Fl×Ls×PS)):Nat->Ls->PS->Option (Fl×Ls×PS)
 |0,_,_=>none
 |n+1,ls,σ=>ai (cX (whT body (jL km body n) ls)) (km ls σ)
def kf(i:Nat)(x:D)(ls:Ls):Option Ls:=some (ls.set i (some (.d x)))
def zX:List Nat->List D->Ls->Option Ls
 |[],l,ls=>ptN ls l
 |i::is,l,ls=>ptC (λx xs=>zX is xs (ls.set i (some (.d x)))) l
def qW(is:List Nat)(x:D)(ls:Ls):Option Ls:=match x with
 | .tup l=>zX is l ls
 |_=>none
def exK(ls:Ls)(v:PV)(σ:PS):Option (Fl×Ls×PS):=match v with
 | .d x=>dy (some (.next,ls,σ)) (Fd x)
 |_=>none
def asK(i:Nat)(ls:Ls)(v:PV)(σ:PS):Option (Fl×Ls×PS):=some (.next,ls.set i (some v),σ)
def R_(ls:Ls)(σ:PS):Option (Fl×Ls×PS):=some (.next,ls,σ)
def Uw(ls:Ls)(o:PV)(a:Nat)(v:PV)(σ:PS):Option (Fl×Ls×PS):=ai (R_ ls) (σ.wz o a v)
def X6(ls:Ls)(a:Nat)(v o:PV)(σ:PS):Option (Fl×Ls×PS):=ai (cX (Uw ls o a)) (σ.eV v)
def siS(ls:Ls)(o:PV)(k:D)(x:D)(σ:PS):Option (Fl×Ls×PS):=ai (R_ ls) (σ.Dk o k x)
def Ux(ls:Ls)(v o k:PV)(σ:PS):Option (Fl×Ls×PS):=match k with
 | .d k=>ai (cX (siS ls o k)) (σ.freeze v)
 |_=>none
def asS(i:FE)(ls:Ls)(v o:PV)(σ:PS):Option (Fl×Ls×PS):=p7 i ls (Ux ls v) o σ
def ntT(σ:PS)(ls:Ls):Option (Fl×Ls×PS):=some (.next,ls,σ)
def asT(is:List Nat)(ls:Ls)(v:PV)(σ:PS):Option (Fl×Ls×PS):=match v with
 | .d x=>ai (ntT σ) (qW is x ls)
 |_=>none
def auZ(ls:Ls)(o:PV)(a:Nat)(σ:PS)(z:Int):Option (Fl×Ls×PS):=ai (R_ ls) (σ.wz o a (.d (.int z)))
def auV(ls:Ls)(o:PV)(a:Nat)(op:mU)(old v:PV)(σ:PS):Option (Fl×Ls×PS):=match old with
 | .d (.int x)=>match v with
  | .d (.int y)=>ai (auZ ls o a σ) (arith op x y)
  |_=>none
 |_=>none
def auO(e:FE)(ls:Ls)(o:PV)(a:Nat)(op:mU)(σ:PS)(old:PV):Option (Fl×Ls×PS):=p7 e ls (auV ls o a op) old σ
def auA(e:FE)(ls:Ls)(a:Nat)(op:mU)(o:PV)(σ:PS):Option (Fl×Ls×PS):=ai (auO e ls o a op σ) (σ.E_ o a)
def foC(lk:Lock)(p:Fl×Ls×PS):Option (Fl×Ls×PS):=some (p.1,p.2.1,itClose p.2.2 lk)
def foI(b:Ls->PS->Option (Fl×Ls×PS))(put:D->Ls->Option Ls)(ls:Ls)(items:List D)(p:PS×Lock):Option (Fl×Ls×PS):=ai (foC p.2) (dO b put items ls p.1)
def Uy(b:Ls->PS->Option (Fl×Ls×PS))(put:D->Ls->Option Ls)(ls:Ls)(x:PV)(σ:PS):Option (Fl×Ls×PS):=ai (cX (foI b put ls)) (dZ σ x)
def reK(ls:Ls)(v:PV)(σ:PS):Option (Fl×Ls×PS):=some (.ret v,ls,σ)
def deS(ls:Ls)(o k:PV)(σ:PS):Option (Fl×Ls×PS):=match k with
 | .d k=>ai (R_ ls) (σ.II o k)
 |_=>none
def deL(ls:Ls)(o k:PV)(σ:PS):Option (Fl×Ls×PS):=match k with
 | .d k=>ai (R_ ls) (σ.qw o k)
 |_=>none
def seK(r:Ls->PS->Option (Fl×Ls×PS))(fl:Fl)(p:Ls×PS):Option (Fl×Ls×PS):=match fl with
 | .next=>r p.1 p.2
 |fl=>some (fl,p)
def uO(f:Ls->PS->Option (Fl×Ls×PS))(o:Option (Fl×Ls×PS)):Option (Fl×Ls×PS):=ai (cX (seK f)) o
mutual
noncomputable def exec (X:Cx):S->Ls->PS->Option (Fl×Ls×PS)
 | .expr e,ls,σ=>ai (cX (exK ls)) (eval X e ls σ)
 | .asg i e,ls,σ=>ai (cX (asK i ls)) (eval X e ls σ)
 | .dW o a e,ls,σ=>ai (cX (p7 (eval X o) ls (X6 ls a))) (eval X e ls σ)
 | .ie o i e,ls,σ=>ai (cX (p7 (eval X o) ls (asS (eval X i) ls))) (eval X e ls σ)
 | .ki is e,ls,σ=>ai (cX (asT is ls)) (eval X e ls σ)
 | .wu o a op e,ls,σ=>ai (cX (auA (eval X e) ls a op)) (eval X o ls σ)
 | .ite c a b,ls,σ=>ai (cX (Dm (execs X a) (execs X b) ls)) (test X c ls σ)
 | .gr i it b,ls,σ=>ai (cX (Uy (execs X b) (kf i) ls)) (eval X it ls σ)
 | .yJ is it b,ls,σ=>ai (cX (Uy (execs X b) (qW is) ls)) (eval X it ls σ)
 | .mh c b,ls,σ=>jL (test X c) (execs X b) X.fuel ls σ
 | .ret e,ls,σ=>ai (cX (reK ls)) (eval X e ls σ)
 | .pass,ls,σ=>some (.next,ls,σ)
 | .cont,ls,σ=>some (.cont,ls,σ)
 | .sY o i,ls,σ=>ai (cX (p7 (eval X i) ls (deS ls))) (eval X o ls σ)
 | .yL o lo,ls,σ=>ai (cX (p7 (eval X lo) ls (deL ls))) (eval X o ls σ)
 | .bad,_,_=>none
noncomputable def execs (X:Cx):Ss->Ls->PS->Option (Fl×Ls×PS)
 | .nil,ls,σ=>some (.next,ls,σ)
 | .cons s r,ls,σ=>uO (execs X r) (exec X s ls σ)
end
structure Fn where
 ar:Nat
 nl:Nat
 body:Ss
def cuC(f:List TO->List TO):List TO->List TO
 |[]=>[]
 |x::l=>x::f l
def qX:List TO->List TO->List TO
 |[]=>λ_=>[]
 |_::r=>cuC (qX r)
theorem mW:∀(ts tm:List TO),qX ts tm=tm.take ts.length
 |_::r,x::l=>congrArg (x::·) (mW r l)
 |[],[]=>rfl
 |[],_::_=>rfl
 |_::_,[]=>rfl
theorem Uz:∀{ts:List TO} {n:Nat},wy ts n=true<->ts.length<=n:=by
 intro ts;induction ts with
 |nil=>intro n;exact⟨λ_=>eJ n,λ_=>rfl⟩
 |cons t r ih=>
  intro n;cases n with
  |zero=>exact⟨λh=>(nomatch h),λh=>absurd h (Nat.not_succ_le_zero _)⟩
  |succ n=>exact ih.trans Nat.succ_le_succ_iff.symm
def leK(ts:List TO)(x:D)(σ:PS):Option (PV×List MO×List TO):=some (.d x,σ.pm,qX ts σ.tm)
def leave(ts:List TO)(v:PV)(σ:PS):Option (PV×List MO×List TO):=match v with
 | .aI n=>dy (ai (cX (leK ts)) (σ.freeze v)) (wy ts n)
 |v=>some (v,σ.pm,qX ts σ.tm)
def mj(ts:List TO)(fl:Fl)(p:Ls×PS):Option (PV×List MO×List TO):=match fl with
 | .ret v=>leave ts v p.2
 | .next=>leave ts (.d .none) p.2
 |_=>none
def tH(X:Cx)(f:Fn):Spec:=λargs pm ts=>
 dy (ai (cX (mj ts)) (execs X f.body (args.map some++List.replicate (f.nl-f.ar) none) ⟨pm,ts⟩)) (Nat.beq args.length f.ar)
inductive Nw where
 |init (C f:Nat)
 |bare (C:Nat)
 |no
def nwK(n:Nat)(v:PV)(p:List MO×List TO):Option (PV×List MO×List TO):=match v with
 | .d .none=>some (.ax n,p)
 |_=>none
def ix(fn:Nat->Spec):Nw->Spec
 | .init C f=>λargs pm ts=>ai (cX (nwK pm.length)) (fn f (.ax pm.length::args) (pm++[.inst C []]) ts)
 | .bare C=>λargs pm ts=>match args with
  |[]=>some (.d (.cin C),pm,ts)
  |_=>none
 | .no=>λ_ _ _=>none
structure Pr where
 glob:Nat->Option D
 fn:Nat->Option Fn
 aR:Nat->Nat->Option Nat
 new:Nat->Nw
 fuel:Nat
def run(P:Pr):Nat->Nat->Spec
 |0,_=>λ_ _ _=>none
 |n+1,f=>match P.fn f with
  |some F=>tH ⟨P.glob,run P n,P.aR,λc=>ix (run P n) (P.new c),P.fuel⟩ F
  |none=>λ_ _ _=>none
section
local macro_rules (kind:=«term~~~_»)|s=>return mza "some" #[mza "some" #[s[1]]]
local macro_rules (kind:=«term#[_,]»)|s=>return mzi_ s[1].getSepArgs.toList
local macro_rules (kind:=scientific)|s=>return mzd_ s
local macro_rules (kind:=char)|s=>return mzo_ s
def Bd0:Ss:=#[.dW 'a' 0 (.lst .nil)]
def Bd1:Ss:=#[.expr (.aR (.attr 'a' 0) 0 #[.tup #['b','c']])]
def Bd2:Ss:=#[.asg 1 (.sP .nil),.yJ [2,3] (.attr 'a' 0) #[.ie 'b' 'c' 'd'],.ret (.bi .sorted 'b')]
def Bd3:Ss:=#[.dW 'a' 0 (.lst .nil),.dW 'a' 9 (.sP .nil),.dW 'a' 8 (.lst #[.lit .none]),.dW 'a' 7 (.lst .nil),.dW 'a' 6 (.lst .nil),.dW 'a' 5 (.lst .nil),.dW 'a' 4 (.sP .nil),.dW 'a' 3 (.sP .nil),.dW 'a' 2 0.0,.dW 'a' 1 0.0,.gr 1 (.glob 0) #[.expr (.aR 'a' 3 #['b'])]]
def Bd4:Ss:=#[.ite (.cmp .isin 'b' (.attr 'a' 9)) #[.ret (.sub (.attr 'a' 9) 'b')] .nil,.asg 2 (.bi .len (.attr 'a' 0)),.expr (.aR (.attr 'a' 0) 0 #['b']),.ie (.attr 'a' 9) 'b' 'c',.ret 'c']
def Bd5:Ss:=#[.asg 4 (.bi .len (.attr 'a' 7)),.expr (.aR (.attr 'a' 7) 0 #['c']),.expr (.aR (.attr 'a' 6) 0 #['d']),.expr (.aR (.attr 'a' 5) 0 #['b']),.ret (.aR 'a' 3 #[.tup #[.glob 1,'e']])]
def Bd6:Ss:=#[.ite (.cmp .eq 'b' (.glob 3)) #[.bad] .nil,.asg 2 (.sub (.attr 'a' 0) 'b'),.ite (.cmp .eq (.sub 'c' 0.0) (.glob 2)) #[.ret (.sub 'c' 1.0)] .nil,.ret (.tup #['b'])]
def Bd7:Ss:=#[.asg 1 (.sub 'a' 0.0),.ite (.or #[.cmp .eq 'b' (.glob 7),.cmp .eq 'b' (.glob 8)]) #[.ret (.glob 9)] .nil,.ite (.cmp .eq 'b' (.glob 5)) #[.ret (.glob 6)] .nil,.ite (.cmp .eq 'b' (.glob 4)) #[.bad] .nil,.ret (.lit (.int (-1)))]
def Bd8:Ss:=#[.asg 2 (.sub (.attr 'a' 0) 'b'),.ite (.and #[.cmp .isin (.sub 'c' 0.0) (.glob 10),.cmp .eq (.sub 'c' (.lit (.int (-1)))) 1.0]) #[.bad] .nil,.ret (.lit (.int (-1)))]
def Bd9:Ss:=#[.ite (.and #[.or #[.cmp .isin (.glob 11) 'a',.cmp .isin (.glob 12) 'a'],.or #[.cmp .isin (.glob 13) 'a',.cmp .isin (.glob 14) 'a']]) #[.bad,.bad] .nil]
def Bd10:Ss:=#[.ite (.cmp .isin (.call 8 #['a','c']) 'b') #[.bad] .nil,.ret (.cmp .eX (.call 7 #[.sub (.attr 'a' 0) 'c']) 'b')]
def Bd11:Ss:=#[.gr 1 (.tup #[.glob 15,.glob 16,.glob 17]) #[.ite (.cmp .isin 'b' 'a') #[.bad] .nil],.ret (.lit (.int (-1)))]
def Bd12:Ss:=#[.asg 2 (.sP .nil),.gr 3 'b' #[.gr 4 (.call 6 #['a','d']) #[.ie 'c' 'e' 1.0]],.asg 5 (.call 11 #['c']),.ite (.cmp .ge 'f' 0.0) #[.bad] .nil,.expr (.call 9 #['c']),.asg 6 (.comp 'h' 7 (.bi .sorted 'c') #[.call 10 #['a','c','h']]),.ite (.nt 'g') #[.bad] .nil,.ite (.cmp .eq (.bi .len 'g') 1.0) #[.ret (.sub 'g' 0.0)] .nil,.ite (.cmp .gt (.bi .len 'g') (.glob 18)) #[.bad] .nil,.ret (.aR 'a' 3 #[.tup #[.glob 2,.bi .tuple 'g']])]
def Bd13:Ss:=#[.ret (.call 12 #['a',.comp 'd' 3 (.call 6 #['a','b']) #[.cmp .eX 'd' 'c']])]
def Bd14:Ss:=#[.ret (.cmp .isin (.sub (.sub (.attr 'a' 0) 'b') 0.0) (.glob 19))]
def Bd15:Ss:=#[.asg 2 (.sub (.attr 'a' 0) 'b'),.ret (.and #[.cmp .isin (.sub 'c' 0.0) (.glob 10),.cmp .eq (.sub 'c' (.lit (.int (-1)))) 1.0])]
def Bd16:Ss:=#[.ite (.call 15 #['a','b']) #[.bad] .nil,.ret 'b']
def UA:Ss:=#[.dW 'a' 22 'b',.dW 'a' 21 'c',.dW 'a' 20 (.sP .nil),.dW 'a' 19 (.sP .nil),.dW 'a' 18 (.sP .nil),.dW 'a' 17 (.lst .nil),.dW 'a' 16 (.lst .nil),.dW 'a' 15 0.0,.dW 'a' 14 (.new 1 .nil),.dW 'a' 13 (.lit (.bool true)),.dW 'a' 12 (.lit .none),.dW 'a' 11 (.lit (.str [])),.dW 'a' 10 0.0]
def Bd18:Ss:=#[.ret (.call 27 #['a','b','c'])]
def Bd19:Ss:=#[.ite (.attr 'a' 13) #[.expr (.aR (.attr 'a' 14) 3 #['b',.attr 'a' 10])] .nil]
def Bd20:Ss:=#[.ret (.or #[.cmp .eq 'b' 'c',.aR (.call 24 #['a']) 4 #['b','c']])]
def Bd21:Ss:=#[.ret (.tup #[.bi .len (.attr (.attr 'a' 14) 0),.bi .len (.attr 'a' 17)])]
def Bd22:Ss:=#[.asg 4 (.aR (.attr 'a' 20) 2 #['b']),.ret (.and #[.cmp .RY 'e' (.lit .none),.aR 'e' 5 #['a','c','d']])]
def Bd23:Ss:=#[.asg 2 (.new 2 #[.attr 'a' 22,'b']),.dW 'c' 20 (.attr 'a' 20),.dW 'c' 13 (.lit (.bool false)),.ret 'c']
def Bd24:Ss:=#[.ite (.cmp .eq (.attr 'a' 21) (.glob 20)) #[.bad] .nil,.ite (.cmp .is (.attr 'a' 12) (.lit .none)) #[.dW 'a' 12 (.call 23 #['a',.glob 20])] .nil,.ret (.attr 'a' 12)]
def Bd25:Ss:=#[.yL (.attr (.attr 'a' 14) 0) (.sub 'b' 0.0),.mh (.cmp .gt (.bi .len (.attr 'a' 17)) (.sub 'b' 1.0)) #[.sY (.attr 'a' 19) (.aR (.attr 'a' 17) 1 .nil)]]
def Bd26:Ss:=#[.asg 1 (.aR 'a' 6 #['b']),.ite (.call 14 #[.attr 'a' 23,'b']) #[.ret (.call 16 #[.attr 'a' 23,'b'])] .nil,.ret 'b']
def Bd27:Ss:=#[.ite (.cmp .eq 'b' 'c') #[.ret (.lit (.bool true))] .nil,.asg 1 (.call 26 #[.attr 'a' 22,'b']),.asg 2 (.call 26 #[.attr 'a' 22,'c']),.ite (.cmp .eq 'b' 'c') #[.bad] .nil,.ite (.cmp .eq (.attr 'a' 21) (.glob 20)) #[.asg 3 (.attr (.attr (.attr 'a' 22) 23) 0),.ite (.or #[.cmp .eq 'b' (.glob 16),.cmp .eq 'c' (.glob 16)]) #[.bad] .nil,.ite (.or #[.cmp .isin (.sub (.sub 'd' 'b') 0.0) (.glob 22),.cmp .isin (.sub (.sub 'd' 'c') 0.0) (.glob 22)]) #[.ret (.lit (.bool false))] .nil,.ret (.call 28 #['a','b','c'])] .nil,.asg 4 (.call 32 #['a','b','c']),.ite (.or #[.cmp .eq 'e' 1.0,.and #[.cmp .eq (.attr 'a' 21) (.glob 21),.cmp .ne 'c' (.glob 3),.cmp .eq (.call 32 #['a','c','b']) 1.0]]) #[.bad] .nil,.ret (.and #[.cmp .lt 'e' 0.0,.call 28 #['a','b','c']])]
def Bd28:Ss:=#[.asg 3 (.tup #['b','c']),.ite (.cmp .isin 'd' (.attr 'a' 18)) #[.ret (.sub (.attr 'a' 18) 'd')] .nil,.ite (.cmp .isin 'd' (.attr 'a' 19)) #[.ret (.lit (.bool true))] .nil,.ite (.cmp .ge (.attr 'a' 15) (.glob 24)) #[.bad,.bad] .nil,.asg 4 (.aR 'a' 7 .nil),.ie (.attr 'a' 19) 'd' 1.0,.expr (.aR (.attr 'a' 17) 0 #['d']),.wu 'a' 15 .add 1.0,.asg 5 (.ite (.cmp .eq (.attr 'a' 21) (.glob 20)) (.call 43 #['a','b','c']) (.call 38 #['a','b','c'])),.wu 'a' 15 .sub 1.0,.ite (.nt 'f') #[.expr (.call 25 #['a','e']),.ite (.or #[.cmp .eq (.sub 'e' 1.0) 0.0,.cmp .ne (.attr 'a' 21) (.glob 23)]) #[.ie (.attr 'a' 18) 'd' (.lit (.bool false))] .nil] #[.ite (.cmp .eq (.sub 'e' 1.0) 0.0) #[.expr (.call 29 #['a',.cmp .eq (.bi .len (.attr (.attr 'a' 14) 0)) (.sub 'e' 0.0)])] .nil],.ret 'f']
def Bd29:Ss:=#[.gr 2 (.attr 'a' 17) #[.sY (.attr 'a' 19) 'c',.ite 'b' #[.ie (.attr 'a' 18) 'c' (.lit (.bool true))] .nil],.dW 'a' 17 (.lst .nil)]
def Bd30:Ss:=#[.ret (.and #[.attr 'a' 13,.cmp .eq (.attr 'a' 21) (.glob 25)])]
def Bd31:Ss:=#[.ite (.and #[.call 30 #['a'],.cmp .ne 'b' (.glob 16),.cmp .ne 'c' (.glob 16),.nt (.aR 'a' 8 #['b','c'])]) #[.expr (.aR 'a' 9 #[.glob 26])] .nil]
def Bd32:Ss:=#[.asg 3 (.call 33 #['a','b','c']),.ite (.cmp .ge 'd' 0.0) #[.bad] .nil,.asg 4 (.attr (.attr (.attr 'a' 22) 23) 0),.asg 5 (.sub (.sub 'e' 'b') 0.0),.asg 6 (.sub (.sub 'e' 'c') 0.0),.ite (.or #[.cmp .isin 'f' (.glob 28),.cmp .isin 'g' (.glob 28)]) #[.ret (.lit (.int (-1)))] .nil,.ite (.cmp .eq 'c' (.glob 27)) #[.bad] .nil,.ite (.cmp .isin 'g' (.glob 22)) #[.ret (.ite (.cmp .isin 'f' (.glob 22)) (.call 36 #['a','b','c']) 0.0)] .nil,.bad,.bad]
def Bd33:Ss:=#[.ite (.or #[.cmp .eq 'c' (.glob 15),.cmp .eq 'c' (.glob 16),.cmp .eq 'b' (.glob 3),.cmp .eq 'b' (.glob 16)]) #[.bad] .nil,.ite (.and #[.cmp .eq 'b' (.glob 15),.cmp .eq (.attr 'a' 21) (.glob 23)]) #[.bad] .nil,.ite (.cmp .eq 'c' (.glob 17)) #[.bad] .nil,.ite (.cmp .eq 'b' (.glob 15)) #[.bad,.bad,.bad] .nil,.ite (.cmp .eq 'b' (.glob 17)) #[.ret (.call 34 #['a','c'])] .nil,.ite (.and #[.cmp .eq 'c' (.glob 3),.cmp .eX (.sub (.sub (.attr (.attr (.attr 'a' 22) 23) 0) 'b') 0.0) (.glob 28)]) #[.bad] .nil,.ret (.lit (.int (-1)))]
def Bd34:Ss:=#[.ite (.cmp .isin (.sub (.sub (.attr (.attr (.attr 'a' 22) 23) 0) 'b') 0.0) (.glob 29)) #[.ret (.lit (.int (-1)))] .nil,.bad,.bad,.bad]
def Bd35:Ss:=#[.ret (.and #[.cmp .eq (.sub 'a' 0.0) (.glob 4),.cmp .eq (.call 7 #['a']) (.glob 6)])]
def Bd36:Ss:=#[.ite (.cmp .eq 'b' (.glob 30)) #[.bad] .nil,.asg 3 (.sub (.attr (.attr (.attr 'a' 22) 23) 0) 'b'),.asg 4 (.sub (.attr (.attr (.attr 'a' 22) 23) 0) 'c'),.ite (.and #[.cmp .eq (.call 7 #['d']) 'c',.cmp .ge (.call 7 #['d']) 0.0]) #[.bad] .nil,.ite (.and #[.cmp .eq (.attr 'a' 21) (.glob 21),.cmp .eq (.call 7 #['e']) 'b']) #[.bad] .nil,.ite (.and #[.cmp .eq (.sub 'd' 0.0) (.glob 4),.cmp .eq (.sub 'e' 0.0) (.glob 4),.cmp .eq (.sub 'd' 1.0) (.sub 'e' 1.0)]) #[.bad] .nil,.ite (.cmp .eq (.sub 'd' 0.0) (.glob 4)) #[.bad] .nil,.ret (.call 37 #['a','b','d','e'])]
def Bd37:Ss:=#[.ite (.or #[.cmp .eq (.attr 'a' 21) (.glob 23),.nt (.call 35 #['d'])]) #[.ret 0.0] .nil,.bad,.bad]
def Bd38:Ss:=#[.asg 3 (.attr (.attr (.attr 'a' 22) 23) 0),.asg 4 (.sub (.sub 'd' 'b') 0.0),.asg 5 (.sub (.sub 'd' 'c') 0.0),.ite (.cmp .eq 'e' (.glob 2)) #[.ret (.call 40 #['a','b','c'])] .nil,.ite (.cmp .eq 'f' (.glob 2)) #[.ret (.call 42 #['a','b','c'])] .nil,.ret (.call 22 #['a',.call 39 #['e','f'],'b','c'])]
def Bd39:Ss:=#[.ite (.or #[.cmp .eq 'a' (.glob 32),.cmp .eq 'b' (.glob 32)]) #[.bad] .nil,.ite (.or #[.cmp .isin 'a' (.glob 29),.cmp .isin 'b' (.glob 29)]) #[.ret (.glob 31)] .nil,.bad,.bad,.bad]
def Bd40:Ss:=#[.gr 3 (.call 6 #[.attr (.attr 'a' 22) 23,'b']) #[.ite (.aR 'a' 4 #['d','c']) #[.ite (.cmp .eq (.attr 'a' 21) (.glob 21)) #[.bad] .nil] #[.ite (.cmp .ne (.attr 'a' 21) (.glob 21)) #[.ret (.lit (.bool false))] .nil]],.ret (.cmp .ne (.attr 'a' 21) (.glob 21))]
def Bd41:Ss:=#[.asg 3 (.lit .none),.gr 4 'c' #[.asg 5 (.aR 'a' 7 .nil),.ite (.aR 'a' 4 #['b','e']) #[.ite (.cmp .eq (.bi .len (.attr (.attr 'a' 14) 0)) (.sub 'f' 0.0)) #[.ret (.lit (.bool true))] .nil,.bad,.bad] .nil],.ite (.cmp .is 'd' (.lit .none)) #[.ret (.lit (.bool false))] .nil,.bad,.bad]
def Bd42:Ss:=#[.asg 3 (.attr (.attr 'a' 22) 23),.asg 4 (.call 6 #['d','c']),.ite (.or #[.cmp .isin 'b' 'e',.call 41 #['a','b','e']]) #[.ret (.lit (.bool true))] .nil,.asg 5 (.sub (.sub (.attr 'd' 0) 'b') 0.0),.ite (.cmp .isin 'f' (.glob 29)) #[.ret (.call 22 #['a',.glob 31,'b','c'])] .nil,.ite (.and #[.cmp .eq 'f' (.glob 32),.call 22 #['a',.glob 36,'b','c']]) #[.bad] .nil,.ite (.or #[.cmp .eq 'f' (.glob 32),.cmp .isin 'f' (.glob 35)]) #[.bad] .nil,.ret (.and #[.cmp .eq 'f' (.glob 33),.call 22 #['a',.glob 34,'b','c']])]
def Bd43:Ss:=#[.asg 3 (.attr (.attr (.attr 'a' 22) 23) 0),.asg 4 (.sub 'd' 'b'),.asg 5 (.sub 'd' 'c'),.ite (.and #[.cmp .eq (.sub 'e' 0.0) (.sub 'f' 0.0),.or #[.cmp .eq (.sub 'e' 0.0) (.glob 2),.cmp .eq (.sub 'e' 0.0) (.glob 32)]]) #[.ret (.and #[.call 44 #['a',.sub 'e' 1.0,.sub 'f' 1.0],.call 44 #['a',.sub 'f' 1.0,.sub 'e' 1.0]])] .nil,.ite (.or #[.cmp .isin (.sub 'e' 0.0) (.tup #[.glob 2,.glob 32]),.cmp .isin (.sub 'f' 0.0) (.tup #[.glob 2,.glob 32])]) #[.ret (.lit (.bool false))] .nil,.bad]
def Bd44:Ss:=#[.gr 3 'b' #[.ite (.nt (.call 41 #['a','d','c'])) #[.ret (.lit (.bool false))] .nil],.ret (.lit (.bool true))]
def Bd45:Ss:=#[.ret (.aR 'a' 3 #[.tup #[.glob 1,'b']])]
def Bd46:Ss:=#[.asg 2 (.sub (.attr 'a' 7) 'b'),.ret (.ite (.or #[.cmp .lt 'c' 0.0,.cmp .eq 'c' (.glob 15)]) (.glob 17) 'c')]
def Bd47:Ss:=#[.asg 2 (.sub (.sub (.attr (.attr 'a' 23) 0) 'b') 0.0),.ite (.or #[.cmp .isin 'c' (.glob 35),.and #[.cmp .eq 'c' (.glob 32),.nt .bad]]) #[.bad] .nil,.ret (.call 13 #[.attr 'a' 23,.aR 'a' 10 #[.tup #[.glob 37,'b']],.tup #[.glob 9,.glob 6]])]
def Bd48:Ss:=#[.ret (.aR (.attr (.attr 'a' 22) 23) 3 #[.tup #[.glob 38,'b',.call 45 #[.attr (.attr 'a' 22) 23,.sub 'c' 1.0]]])]
def Bd49:Ss:=#[.ite (.or #[.cmp .ge (.sub 'c' 3.0) 0.0,.cmp .eq (.sub 'c' 5.0) 1.0]) #[.ret (.lit (.bool false))] .nil,.asg 3 (.aR (.attr (.attr 'a' 22) 23) 3 #[.tup #[.glob 37,'b']]),.ite (.or #[.nt (.aR 'a' 4 #['d',.sub 'c' 2.0]),.nt (.aR 'a' 4 #[.sub 'c' 4.0,.call 48 #['a','b','c']])]) #[.ret (.lit (.bool false))] .nil,.expr (.aR 'a' 9 #[.glob 40]),.ite (.cmp .eq (.sub 'c' 6.0) 1.0) #[.expr (.aR 'a' 9 #[.glob 39])] .nil,.ret (.lit (.bool true))]
def Bd50:Ss:=#[.ret (.and #[.cmp .eq (.sub 'a' 0.0) (.glob 41),.cmp .eq .bad (.tup #[.tup .nil,.tup .nil,.tup .nil,.tup .nil,.tup .nil])])]
def Bd51:Ss:=#[.ite (.and #[.cmp .eq (.sub 'c' 0.0) (.glob 42),.call 62 #['a','c','d']]) #[.ret (.lit (.bool true))] .nil,.ite (.and #[.cmp .eq (.sub 'd' 5.0) 1.0,.call 50 #['c'],.cmp .ne (.attr 'a' 21) (.glob 23)]) #[.bad,.bad] .nil,.ite (.or #[.cmp .ge (.sub 'd' 3.0) 0.0,.cmp .eq (.sub 'd' 5.0) 2.0]) #[.ret (.lit (.bool false))] .nil,.ite (.cmp .eq (.sub 'd' 4.0) (.call 48 #['a','b','d'])) #[.ret (.call 54 #['a','b','d'])] .nil,.ret (.and #[.cmp .ne (.sub 'c' 0.0) (.glob 42),.cmp .eq (.sub 'd' 5.0) 0.0,.call 56 #['a','b','d']])]
def Bd52:Ss:=#[.asg 3 (.attr 'a' 22),.ite (.cmp .eq 'c' (.aR 'd' 10 #[.tup #[.glob 37,'b']])) #[.ret (.lit .none)] .nil,.ite (.cmp .isin (.sub (.sub (.attr (.attr 'd' 23) 0) 'b') 0.0) (.glob 35)) #[.bad,.bad] .nil,.expr (.aR 'a' 9 #[.glob 43])]
def Bd53:Ss:=#[.asg 3 (.sub (.attr 'a' 0) 'c'),.ret (.cmp .eq (.sub (.attr 'a' 0) (.ite (.cmp .eq (.sub 'd' 0.0) (.glob 32)) (.sub (.sub 'd' 1.0) 0.0) 'c')) (.tup #[.glob 37,'b']))]
def Oh:Ss:=#[.asg 3 (.and #[.cmp .eq (.sub 'c' 6.0) 0.0,.call 53 #[.attr (.attr 'a' 22) 23,'b',.sub 'c' 2.0]]),.ite (.or #[.cmp .eq (.sub 'c' 6.0) 2.0,.and #[.cmp .eq (.sub 'c' 6.0) 0.0,.nt 'd',.call 55 #[.attr 'a' 22,'b']]]) #[.expr (.aR 'a' 9 #[.glob 39])] .nil,.ite (.and #[.cmp .eq (.sub 'c' 5.0) 1.0,.cmp .ne (.sub 'c' 6.0) 1.0]) #[.expr (.aR 'a' 9 #[.glob 26])] .nil,.ite (.cmp .eq (.sub 'c' 5.0) 0.0) #[.expr (.call 52 #['a','b',.sub 'c' 2.0])] .nil,.ret (.lit (.bool true))]
def Bd55:Ss:=#[.ite (.cmp .eX (.sub (.sub (.attr (.attr 'a' 23) 0) 'b') 0.0) (.glob 35)) #[.ret (.lit (.bool true))] .nil,.bad]
def Bd56:Ss:=#[.asg 3 (.attr 'a' 22),.ite (.nt (.aR 'a' 4 #[.sub 'c' 2.0,.call 47 #['d','b']])) #[.ret (.lit (.bool false))] .nil,.asg 4 (.aR 'd' 10 #[.tup #[.glob 38,'b',.call 45 #[.attr 'd' 23,.sub 'c' 1.0]]]),.ite (.nt (.aR 'a' 4 #['e',.sub 'c' 4.0])) #[.ret (.lit (.bool false))] .nil,.ite (.cmp .eX (.sub (.sub (.attr (.attr 'd' 23) 0) 'b') 0.0) (.glob 35)) #[.expr (.call 52 #['a','b',.sub 'c' 2.0])] .nil,.ite (.cmp .ne (.sub 'c' 6.0) 1.0) #[.expr (.call 31 #['a','e',.sub 'c' 4.0]),.ite (.call 55 #['d','b']) #[.expr (.aR 'a' 9 #[.glob 39])] .nil] .nil,.ret (.lit (.bool true))]
def Oi:Ss:=#[.ret (.ite (.cmp .eq 'a' 2.0) (.lit (.int (-1))) 'a')]
def UB:Ss:=#[.asg 3 (.sub (.attr (.attr (.attr 'a' 22) 23) 0) 'c'),.asg 4 (.sub (.attr (.attr (.attr 'a' 22) 23) 0) 'b'),.ite (.and #[.cmp .eq (.sub 'd' 0.0) (.glob 37),.cmp .eq (.sub 'e' 0.0) (.glob 37)]) #[.ret (.aR 'a' 4 #[.sub 'd' 1.0,.sub 'e' 1.0])] .nil,.ret (.aR 'a' 4 #['b','c'])]
def Oj:Ss:=#[.ite (.cmp .eq (.attr 'a' 21) (.glob 20)) #[.bad] .nil,.ite (.and #[.cmp .ne (.attr 'a' 21) (.glob 21),.cmp .gt (.call 57 #[.sub 'b' 5.0]) (.call 57 #[.sub 'c' 5.0])]) #[.ret (.lit (.bool false))] .nil,.ret (.call 58 #['a',.sub 'c' 2.0,.sub 'b' 2.0])]
def UD:Ss:=#[.ite (.or #[.and #[.cmp .eq (.sub 'b' 6.0) 1.0,.cmp .ne (.sub 'c' 6.0) 1.0],.and #[.cmp .eq (.sub 'b' 6.0) 0.0,.cmp .eq (.sub 'c' 6.0) 2.0]]) #[.expr (.aR 'a' 9 #[.glob 39])] .nil,.ite (.and #[.cmp .ne (.sub 'b' 5.0) (.sub 'c' 5.0),.cmp .ne (.sub 'c' 6.0) 1.0]) #[.expr (.aR 'a' 9 #[.glob 26])] .nil]
def Ol:Ss:=#[.ite (.cmp .eq (.sub 'b' 2.0) (.sub 'c' 2.0)) #[.ret (.lit .none)] .nil,.asg 3 (.attr (.attr (.attr 'a' 22) 23) 0),.asg 4 (.cmp .eq (.sub (.sub 'd' (.sub 'c' 2.0)) 0.0) (.glob 37)),.ite (.or #[.cmp .eq (.sub 'c' 5.0) 2.0,.and #[.cmp .eq (.sub 'c' 5.0) 0.0,.nt 'e']]) #[.expr (.aR 'a' 9 #[.glob 44])] .nil,.ite (.and #[.cmp .eq (.sub 'c' 5.0) 0.0,'e',.cmp .ne (.sub 'c' 6.0) 1.0]) #[.expr (.aR 'a' 9 #[.glob 26])] .nil,.ite (.and #[.nt 'e',.cmp .eq (.sub 'b' 6.0) 0.0,.cmp .eq (.sub 'c' 6.0) 0.0,.cmp .isin (.sub (.sub 'd' (.sub 'b' 2.0)) 0.0) (.tup #[.glob 37,.glob 32])]) #[.expr (.aR 'a' 9 #[.glob 39])] .nil]
def Bd62:Ss:=#[.ite (.or #[.cmp .ge (.sub 'b' 3.0) 0.0,.cmp .ge (.sub 'c' 3.0) 0.0,.nt (.call 59 #['a','b','c'])]) #[.ret (.lit (.bool false))] .nil,.asg 3 (.aR (.attr 'a' 22) 11 #[.sub 'b' 4.0,.sP #[.sub 'b' 1.0,.call 45 #[.attr (.attr 'a' 22) 23,.sub 'c' 1.0]]]),.ite (.nt (.aR 'a' 4 #['d',.sub 'c' 4.0])) #[.ret (.lit (.bool false))] .nil,.expr (.call 60 #['a','b','c']),.expr (.call 61 #['a','b','c']),.ite (.cmp .ne (.sub 'c' 6.0) 1.0) #[.expr (.call 31 #['a','d',.sub 'c' 4.0])] .nil,.ret (.lit (.bool true))]
def Bd63:Ss:=#[.ret 'b']
def Bd64:Ss:=#[.ret (.aR (.attr 'a' 23) 3 #['b'])]
def Bd65:Ss:=#[.ret (.bi .tuple (.comp (.call 67 #['a','d','c']) 3 'b' .nil))]
def Bd66:Ss:=#[.ite (.cmp .eq (.sub 'c' 0.0) (.glob 38)) #[.ret (.aR 'a' 10 #[.bin .add (.tup #[.glob 38]) (.call 65 #['a',.EH 'c' 1.0 (.lit .none),'d'])])] .nil,.ite (.cmp .eq (.sub 'c' 0.0) (.glob 37)) #[.bad] .nil,.ite (.cmp .eq (.sub 'c' 0.0) (.glob 8)) #[.bad] .nil,.ite (.cmp .eq (.sub 'c' 0.0) (.glob 47)) #[.bad] .nil,.ite (.cmp .eq (.sub 'c' 0.0) (.glob 46)) #[.bad] .nil,.ite (.cmp .eq (.sub 'c' 0.0) (.glob 45)) #[.bad,.bad] .nil,.ret 'b']
def Bd67:Ss:=#[.ite (.or #[.cmp .lt 'b' 0.0,.cmp .eq (.bi .len 'c') 0.0]) #[.bad] .nil,.asg 3 (.sub (.attr (.attr 'a' 23) 0) 'b'),.ite (.cmp .eq (.sub 'd' 0.0) (.glob 1)) #[.ret (.aR 'c' 2 #[.sub 'd' 1.0,'b'])] .nil,.ite (.cmp .eq (.sub 'd' 0.0) (.glob 2)) #[.ret (.call 12 #[.attr 'a' 23,.call 65 #['a',.sub 'd' 1.0,'c']])] .nil,.ite (.cmp .eq (.sub 'd' 0.0) (.glob 49)) #[.bad] .nil,.ite (.cmp .eq (.sub 'd' 0.0) (.glob 33)) #[.bad] .nil,.ite (.cmp .eq (.sub 'd' 0.0) (.glob 41)) #[.bad] .nil,.ite (.cmp .eq (.sub 'd' 0.0) (.glob 48)) #[.bad] .nil,.ret (.call 66 #['a','b','d','c'])]
def UE:Ss:=#[.dW 'a' 23 'b',.dW 'a' 15 0.0,.dW 'a' 25 200.0,.dW 'a' 24 40.0]
def Bd69:Ss:=#[.ret (.call 67 #['a','b','c'])]
def Bd70:Ss:=#[.ret (.and #[.cmp .ne (.attr 'b' 21) (.glob 20),.call 71 #['b','c','d']])]
def Bd71:Ss:=#[.asg 3 (.sub (.attr (.attr (.attr 'a' 22) 23) 0) 'b'),.ite (.cmp .ne (.sub 'd' 0.0) (.glob 1)) #[.ret (.lit (.bool false))] .nil,.asg 4 (.call 46 #[.attr (.attr 'a' 22) 23,.sub 'd' 1.0]),.ret (.and #[.cmp .ne 'e' 'b',.aR 'a' 4 #['e','c']])]
def Bd72:Ss:=#[.ie (.attr 'a' 20) (.glob 31) (.new 4 .nil)]
def Bd73:Ss:=#[.ret (.lst #[.tup #[3.0,.lit (.str [97]),0.0],.tup #[4.0,1.0,0.0],.tup #[1.0,.lit (.str [110,117,108,108])]])]
def Bd74:Ss:=#[.ret (.lst #[.tup #[1.0,0.0],.tup #[0.0,2.0],.tup #[0.0,3.0],.tup #[2.0,3.0],.tup #[5.0,4.0],.tup #[5.0,6.0]])]
def Om:Ss:=#[.ret (.bin .add (.sub 'a' (.bin .mod 'b' (.bi .len 'a'))) (.bin .mul 31.0 (.bin .fdiv 'b' (.bi .len 'a'))))]
def Oo:Ss:=#[.asg 5 (.and #['e',.cmp .lt 'a' 4.0]),.asg 6 (.ite (.or #[.cmp .lt 'a' 2.0,.cmp .lt 'b' 2.0]) 'b' 0.0),.ret (.tup #['a','g','c',.ite (.or #[.cmp .gt 'd' 0.0,'f']) 'd' 1.0,'f'])]
def Oq:Ss:=#[.asg 1 (.bin .fdiv 'a' 7.0),.ret (.call 76 #[.bin .mod 'a' 7.0,.bin .mod 'b' 3.0,.bin .mod (.bin .fdiv 'b' 3.0) 3.0,.bin .mod (.bin .fdiv 'b' 18.0) 8.0,.cmp .eq (.bin .mod (.bin .fdiv 'b' 9.0) 2.0) 1.0])]
def Bd78:Ss:=#[.ki [4,5,6,7,8] 'd',.asg 9 (.call 5 #['a',.lit (.str [80]),.sub 'b' 'e',.lit (.int (-1))]),.asg 10 (.comp (.aR 'a' 3 #[.sub (.call 73 .nil) 'l']) 11 (.tup #[0.0,1.0,2.0]) #[.cmp .eq (.bin .mod (.bin .fdiv 'h' (.bin .pow 2.0 'l')) 2.0) 1.0]),.ite 'i' #[.expr (.aR 'k' 0 #[.aR 'a' 3 #[.tup #[15.0,.sub 'c' (.ite (.cmp .eq 'e' 1.0) 1.0 0.0),'j']]])] .nil,.ret (.aR 'a' 3 #[.tup #[17.0,.sub (.sub (.attr 'a' 0) 'j') 1.0,.sub 'b' 'e',.lit (.int (-1)),.call 12 #['a','k'],'f','g']])]
def Bd79:Ss:=#[.asg 1 (.lst #[.lst .nil]),.gr 2 'a' #[.asg 1 (.bin .add 'b' (.comp (.bin .add 'd' (.lst #['c'])) 3 'b' .nil))],.ret (.EH 'b' 1.0 (.lit .none))]
def Bd80:Ss:=#[.asg 2 (.sP .nil),.gr 3 'a' #[.ki [4,5,6] (.sub 'a' 'd'),.ite (.and #[.cmp .eq 'b' 4.0,'f']) #[.cont] .nil,.ite (.and #[.cmp .eq 'b' 3.0,'f']) #[.ie 'c' 'd' (.tup #[.bin .bor 'e' 8.0,.lit (.bool false),'g'])] #[.ie 'c' 'd' (.tup #['e','f',.and #['g',.cmp .ne 'b' 2.0]])]],.ite (.cmp .eq 'b' 1.0) #[.ie 'c' (.lit (.str [122])) (.tup #[32.0,.lit (.bool false),.lit (.bool false)])] .nil,.ret 'c']
def Bd81:Ss:=#[.asg 1 (.lst .nil),.gr 2 (.glob 50) #[.asg 3 (.ite (.or #[.cmp .isin 2.0 'a',.cmp .isin 3.0 'a']) (.call 79 #[.comp 'i' 8 'c' .nil]) (.lst #[.lst .nil])),.gr 4 'd' #[.gr 5 (.ite (.cmp .isin 3.0 'a') (.call 79 #['e']) (.lst #['e'])) #[.gr 6 (.ite (.cmp .isin 4.0 'a') (.call 79 #[.lst #[.lit (.str [112]),.lit (.str [113])]]) (.lst #[.lst .nil])) #[.gr 7 (.bi .range (.ite (.cmp .isin 1.0 'a') 5.0 1.0)) #[.expr (.aR 'b' 0 #[.tup #['c',.call 80 #['c','h'],'e','f','g']])]]]]],.ret 'b']
def UG:Ss:=#[.ite (.cmp .eq (.bi .len 'a') 1.0) #[.ret (.sub 'b' (.sub 'a' 0.0))] .nil,.ki [2,3,4,5,6] 'a',.asg 7 (.sub 'b' (.ite (.cmp .eq 'c' 1.0) 1.0 0.0)),.asg 8 (.sP .nil),.gr 9 (.sub (.lst #['h','h',.sub 'b' 2.0,.sub 'b' 3.0,.sub 'b' 4.0,.lst #[.lit (.str [112]),.lit (.str [113])],.lst #[.lit (.str [112])]]) 'c') #[.ki [10,11,12] (.ite (.cmp .lt 'c' 4.0) (.sub 'h' 'j') (.tup #[0.0,.lit (.bool false),.lit (.bool false)])),.asg 13 'f',.ite 'g' #[.asg 13 (.ite 'l' (.bin .bor (.bin .bor 'f' 'k') 8.0) (.bin .bor 'f' 'k'))] .nil,.ite (.cmp .gt 'c' 1.0) #[.ie 'i' 'j' (.tup #['n',.cmp .eq 'd' 1.0,.cmp .eq 'e' 1.0]),.cont] .nil,.ite (.and #[.cmp .eq 'd' 2.0,'l']) #[.asg 13 (.bin .band 'n' 55.0)] .nil,.ie 'i' 'j' (.tup #['n',.ite (.cmp .eq 'd' 0.0) 'l' (.cmp .eq 'd' 1.0),.ite (.cmp .eq 'e' 0.0) 'm' (.cmp .eq 'e' 1.0)])],.ret 'i']
def Ot:Ss:=#[.asg 2 (.lst .nil),.gr 3 'b' #[.ki [4,5,6] (.sub 'b' 'd'),.ite (.cmp .eX 'd' 'a') #[.ite (.nt 'f') #[.expr (.aR 'c' 0 #[11.0])] .nil,.cont] .nil,.ki [7,8,9] (.sub 'a' 'd'),.asg 10 (.ite 'f' (.bin .bor 'e' 8.0) 'e'),.asg 11 (.ite 'i' (.bin .bor 'h' 8.0) 'h'),.ite (.and #['i',.nt 'f']) #[.expr (.aR 'c' 0 #[11.0]),.asg 11 (.bin .band 'h' 55.0)] #[.ite (.and #[.nt 'g',.cmp .ne 'l' 'k']) #[.expr (.aR 'c' 0 #[3.0])] .nil],.ite (.cmp .ne (.bin .band 'l' 'k') 'l') #[.expr (.aR 'c' 0 #[0.0])] .nil,.ite (.and #['j',.nt 'g']) #[.expr (.aR 'c' 0 #[4.0])] .nil],.ret 'c']
def yO:Ss:=#[.ite (.cmp .eq (.bi .len 'a') 1.0) #[.asg 2 (.ite (.cmp .eq (.sub 'a' 0.0) 0.0) (.cmp .isin (.sub 'b' 0.0) (.tup #[0.0,2.0,3.0])) (.cmp .eq (.sub 'b' 0.0) 1.0)),.ret (.and #['c',.nt (.and #[.cmp .eq (.sub 'b' 1.0) 1.0,.cmp .gt (.sub 'b' 3.0) 0.0])])] .nil,.ite (.cmp .eq (.bi .len 'b') 1.0) #[.ret (.cmp .eq (.sub 'a' 0.0) (.sub 'b' 0.0))] .nil,.ite (.and #[.cmp .ne (.sub 'a' 0.0) (.sub 'b' 0.0),.cmp .eX (.tup #[.sub 'a' 0.0,.sub 'b' 0.0]) (.call 74 .nil)]) #[.ret (.lit (.bool false))] .nil,.ret (.nt (.and #[.sub 'a' 4.0,.sub 'b' 4.0,.cmp .ne (.cmp .eq (.sub 'a' 0.0) 1.0) (.cmp .eq (.sub 'b' 0.0) 1.0)]))]
def yP:Ss:=#[.ite (.cmp .eq (.bi .len 'b') 1.0) #[.ret (.lit (.bool false))] .nil,.ite (.cmp .isin (.sub 'b' 0.0) (.tup #[2.0,3.0])) #[.ret (.and #[.cmp .eq (.sub 'b' 1.0) 0.0,.or #[.cmp .eq (.bi .len 'a') 1.0,.cmp .ne (.sub 'a' 1.0) 1.0]])] .nil,.ret (.and #[.cmp .gt (.bi .len 'a') 1.0,.cmp .eq (.sub 'a' 0.0) 1.0,.cmp .eq (.sub 'b' 0.0) 0.0,.cmp .eq (.sub 'a' 1.0) 2.0])]
def Ou:Ss:=#[.ret (.or #[.cmp .isin 'a' 'b',.and #[.cmp .eq 'a' 11.0,.cmp .isin 5.0 'b']])]
def IK:Ss:=#[.asg 1 (.comp (.bin .mod 'z' 99991.0) 25 (.EH 'a' (.lit .none) 9.0) .nil),.ite (.cmp .eq (.bi .len 'b') 0.0) #[.asg 1 (.lst #[4.0])] .nil,.asg 2 (.new 0 .nil),.asg 3 (.call 5 #['c',.lit (.str [84]),.lit (.int (-1)),.lit (.int (-1))]),.asg 4 (.call 5 #['c',.lit (.str [85]),'d',.lit (.int (-1))]),.asg 5 (.call 5 #['c',.lit (.str [75]),.aR 'c' 3 #[.tup #[14.0,'d']],.lit (.int (-1))]),.asg 6 (.aR 'c' 3 #[.tup #[3.0,.lit (.str [112]),0.0]]),.asg 7 (.call 12 #['c',.lst #['g',.aR 'c' 3 #[.tup #[3.0,.lit (.str [113]),0.0]]]]),.asg 8 (.lst #[.aR 'c' 3 #[.tup #[14.0,'d']],.aR 'c' 3 #[.tup #[14.0,'e']],'f',.call 5 #['c',.lit (.str [74]),'f',.lit (.int (-1))],.call 5 #['c',.lit (.str [76]),'h',.lit (.int (-1))],'h','g']),.gr 9 (.bi .range (.bin .fdiv (.bin .add (.bi .len 'b') 2.0) 3.0)) #[.asg 10 (.call 75 #['b',.bin .mul 3.0 'j']),.asg 11 (.call 77 #[.call 75 #['b',.bin .add (.bin .mul 3.0 'j') 1.0]]),.asg 12 (.call 77 #[.call 75 #['b',.bin .add (.bin .mul 3.0 'j') 2.0]]),.ite (.cmp .eq (.bin .mod (.bin .fdiv 'k' 4.0) 2.0) 1.0) #[.asg 12 (.call 76 #[.sub 'm' 0.0,.sub 'm' 1.0,.sub 'm' 2.0,.sub 'l' 3.0,.sub 'l' 4.0])] .nil,.ite (.cmp .eq (.bin .mod (.bin .fdiv 'k' 8.0) 2.0) 1.0) #[.asg 12 (.call 76 #[.sub 'l' 0.0,.sub 'm' 1.0,.sub 'm' 2.0,.sub 'm' 3.0,.sub 'm' 4.0])] .nil,.ite (.cmp .eq (.bin .mod 'k' 4.0) 2.0) #[.asg 11 (.tup #[.bin .mod (.bin .fdiv 'k' 16.0) 2.0])] .nil,.ite (.cmp .eq (.bin .mod 'k' 4.0) 3.0) #[.asg 12 (.tup #[.bin .mod (.bin .fdiv 'k' 16.0) 2.0])] .nil,.asg 13 (.ite (.cmp .eq (.bi .len 'l') 1.0) (.sub (.tup #['d','e']) (.sub 'l' 0.0)) (.call 78 #['c','i',.tup #['d','e'],'l'])),.asg 14 (.ite (.cmp .eq (.bi .len 'm') 1.0) (.sub (.tup #['d','e']) (.sub 'm' 0.0)) (.call 78 #['c','i',.tup #['d','e'],'m'])),.asg 15 (.new 2 #[.new 3 #['c'],1.0]),.expr (.call 72 #['p']),.ite (.cmp .eq (.bi .len 'm') 1.0) #[.asg 16 (.call 49 #['p','o',.sub (.attr 'c' 0) 'n'])] #[.asg 16 (.call 51 #['p','n',.sub (.attr 'c' 0) 'n',.sub (.attr 'c' 0) 'o'])],.asg 17 (.aR (.attr 'p' 14) 12 .nil),.asg 18 (.lst .nil),.gr 19 (.call 81 #[.lst #[.ite (.cmp .gt (.bi .len 'l') 1.0) (.sub 'l' 0.0) 1.0,.ite (.cmp .gt (.bi .len 'm') 1.0) (.sub 'm' 0.0) 1.0]]) #[.asg 18 (.bin .add 's' (.call 83 #[.call 82 #['l','t'],.call 82 #['m','t']]))],.ite 'q' #[.ite (.and #[.cmp .gt (.bi .len 'm') 1.0,.cmp .gt (.bi .len (.comp 'y' 24 's' #[.nt (.call 86 #['y','r'])])) 0.0]) #[.bad] .nil,.ite (.and #[.cmp .eq (.bi .len 'm') 1.0,.or #[.cmp .isin 0.0 's',.cmp .isin 11.0 's']]) #[.bad] .nil,.asg 20 (.comp 'x' 23 (.tup #[3.0,4.0]) #[.cmp .isin 'x' 's']),.asg 21 (.ite (.cmp .gt (.bi .len 'l') 1.0) 11.0 5.0),.ite (.cmp .eq (.bi .len 'm') 1.0) #[.ite (.cmp .ne 'r' (.bin .add (.comp 'w' 22 'u' #[.cmp .eq 'w' 4.0]) (.lst #[15.0]))) #[.bad] .nil] #[.ite (.and #[.cmp .lt (.sub 'l' 0.0) 2.0,.ite (.cmp .gt (.bi .len 'l') 1.0) (.cmp .lt (.sub 'm' 0.0) 2.0) (.or #[.cmp .eq (.sub 'm' 3.0) 0.0,.cmp .gt (.sub 'm' 0.0) 1.0])]) #[.ite (.cmp .ne 'r' (.bin .add 'u' (.ite (.cmp .isin 11.0 's') (.lst #['v']) (.lst .nil)))) #[.bad] .nil] .nil]] #[.ite (.and #[.call 84 #['l','m'],.cmp .eX 0.0 's',.or #[.cmp .eX 11.0 's',.call 85 #['l','m']]]) #[.bad] .nil],.ite (.and #[.cmp .eq 'l' 'm',.or #[.nt 'q',.cmp .ne 'r' (.lst .nil)]]) #[.bad] .nil],.ret (.lit (.bool true))]
def nthC{α:Type}(x:α)(f:Nat->Option α):Nat->Option α
 |0=>some x
 |n+1=>f n
def Fe{α:Type}:List α->Nat->Option α
 |[]=>λ_=>none
 |x::r=>nthC x (Fe r)
def fnL:List Fn:=[⟨1,1,Bd0⟩,⟨3,3,Bd1⟩,⟨1,4,Bd2⟩,⟨1,2,Bd3⟩,⟨2,3,Bd4⟩,⟨4,5,Bd5⟩,⟨2,3,Bd6⟩,⟨1,2,Bd7⟩,⟨2,3,Bd8⟩,⟨1,1,Bd9⟩,⟨3,3,Bd10⟩,⟨1,2,Bd11⟩,⟨2,8,Bd12⟩,⟨3,4,Bd13⟩,⟨2,2,Bd14⟩,⟨2,3,Bd15⟩,⟨2,2,Bd16⟩,⟨3,3,UA⟩,⟨3,3,Bd18⟩,⟨2,2,Bd19⟩,⟨3,3,Bd20⟩,⟨1,1,Bd21⟩,⟨4,5,Bd22⟩,⟨2,3,Bd23⟩,⟨1,1,Bd24⟩,⟨2,2,Bd25⟩,⟨2,2,Bd26⟩,⟨3,5,Bd27⟩,⟨3,6,Bd28⟩,⟨2,3,Bd29⟩,⟨1,1,Bd30⟩,⟨3,3,Bd31⟩,⟨3,7,Bd32⟩,⟨3,3,Bd33⟩,⟨2,3,Bd34⟩,⟨1,1,Bd35⟩,⟨3,5,Bd36⟩,⟨4,4,Bd37⟩,⟨3,6,Bd38⟩,⟨2,2,Bd39⟩,⟨3,4,Bd40⟩,⟨3,6,Bd41⟩,⟨3,6,Bd42⟩,⟨3,6,Bd43⟩,⟨3,4,Bd44⟩,⟨2,2,Bd45⟩,⟨2,3,Bd46⟩,⟨2,3,Bd47⟩,⟨3,3,Bd48⟩,⟨3,4,Bd49⟩,⟨1,1,Bd50⟩,⟨4,4,Bd51⟩,⟨3,5,Bd52⟩,⟨3,4,Bd53⟩,⟨3,4,Oh⟩,⟨2,2,Bd55⟩,⟨3,5,Bd56⟩,⟨1,1,Oi⟩,⟨3,5,UB⟩,⟨3,3,Oj⟩,⟨3,3,UD⟩,⟨3,5,Ol⟩,⟨3,4,Bd62⟩,⟨2,2,Bd63⟩,⟨2,2,Bd64⟩,⟨3,4,Bd65⟩,⟨4,5,Bd66⟩,⟨3,4,Bd67⟩,⟨2,2,UE⟩,⟨3,3,Bd69⟩,⟨4,4,Bd70⟩,⟨3,5,Bd71⟩,⟨1,1,Bd72⟩,⟨0,0,Bd73⟩,⟨0,0,Bd74⟩,⟨2,2,Om⟩,⟨5,7,Oo⟩,⟨1,2,Oq⟩,⟨4,12,Bd78⟩,⟨1,4,Bd79⟩,⟨2,7,Bd80⟩,⟨1,9,Bd81⟩,⟨2,14,UG⟩,⟨2,12,Ot⟩,⟨2,3,yO⟩,⟨2,2,yP⟩,⟨2,2,Ou⟩,⟨1,26,IK⟩]
def p8(n:Nat):Option Fn:=Fe fnL n
def glL:List D:=[(.tup [(.tup [(.int 1),(.str [97,110,121])]),(.tup [(.int 1),(.str [117,110,107,110,111,119,110])]),(.tup [(.int 1),(.str [110,101,118,101,114])]),(.tup [(.int 1),(.str [118,111,105,100])]),(.tup [(.int 1),(.str [117,110,100,101,102,105,110,101,100])]),(.tup [(.int 1),(.str [110,117,108,108])]),(.tup [(.int 1),(.str [115,116,114,105,110,103])]),(.tup [(.int 1),(.str [110,117,109,98,101,114])]),(.tup [(.int 2),(.int 0),(.int 0)]),(.tup [(.int 2),(.int 1),(.int 0)]),(.tup [(.int 1),(.str [111,98,106,101,99,116])]),(.tup [(.int 8),(.tup []),(.tup []),(.tup []),(.tup []),(.tup []),(.int 0)]),(.tup [(.int 6),(.tup [(.int 8),(.int 9)])]),(.tup [(.int 1),(.str [101,114,114,111,114])]),(.tup [(.int 2),(.int 0),(.int 1)]),(.tup [(.int 2),(.int 1),(.int 1)])]),
 (.int 10),
 (.int 6),
 (.int 2),
 (.int 5),
 (.int 4),
 (.int 7),
 (.int 3),
 (.int 18),
 (.int 6),
 (.tup [(.int 2),(.int 3),(.int 4),(.int 5),(.int 8)]),
 (.int 8),
 (.int 14),
 (.int 9),
 (.int 15),
 (.int 0),
 (.int 13),
 (.int 1),
 (.int 400),
 (.tup [(.int 2),(.int 3),(.int 4),(.int 5)]),
 (.int 3),
 (.int 2),
 (.tup [(.int 1),(.int 2),(.int 3),(.int 4),(.int 5)]),
 (.int 4),
 (.int 60),
 (.int 1),
 (.int 3),
 (.int 10),
 (.tup [(.int 6),(.int 7),(.int 10),(.int 14),(.int 15),(.int 16),(.int 17),(.int 18),(.int 19)]),
 (.tup [(.int 10),(.int 14),(.int 15),(.int 16),(.int 17),(.int 18),(.int 19)]),
 (.int 4),
 (.int 2),
 (.int 7),
 (.int 12),
 (.int 12),
 (.tup [(.int 8),(.int 9)]),
 (.int 1),
 (.int 14),
 (.int 15),
 (.int 4),
 (.int 15),
 (.int 8),
 (.int 17),
 (.int 5),
 (.int 11),
 (.int 16),
 (.int 19),
 (.int 9),
 (.int 13),
 (.int 11),
 (.lst [(.gT []),(.gT [((.str [112]),(.tup [(.int 32),(.bool false),(.bool false)]))]),(.gT [((.str [112]),(.tup [(.int 32),(.bool true),(.bool false)])),((.str [113]),(.tup [(.int 1),(.bool false),(.bool true)]))]),(.gT [((.str [112]),(.tup [(.int 33),(.bool false),(.bool true)])),((.str [113]),(.tup [(.int 32),(.bool true),(.bool true)]))])])]
def l7(n:Nat):Option D:=Fe glL n
def zY(C m:Nat):List (Nat×Nat×Nat)->Option Nat
 |[]=>none
 |p::r=>bif Nat.beq C p.1&&Nat.beq m p.2.1 then some p.2.2 else zY C m r
def mtL:List (Nat×Nat×Nat):=[(0,3,4),(1,3,1),(1,12,2),(2,4,18),(2,7,21),(2,8,20),(2,9,19),(3,6,63),(3,10,64),(3,11,69),(4,5,70)]
def pB(C m:Nat):Option Nat:=zY C m mtL
def yQ:Nat->Nw
 |0=> .init 0 3
 |1=> .init 1 0
 |2=> .init 2 17
 |3=> .init 3 68
 |4=> .bare 4
 |_=> .no
def pr:Pr:=⟨l7,p8,pB,yQ,100000⟩
local macro_rules |`(())=>return mzj (mzx_ "omega")
@[irreducible] def rn:Nat->Nat->Spec:=run pr
def aH(n:Nat):Cx:=⟨l7,rn n,pB,λc=>ix (rn n) (yQ c),100000⟩
theorem Ff(n f:Nat):rn (n+1) f=match p8 f with
  |some F=>tH (aH n) F
  |none=>λ_ _ _=>none:=by unfold aH rn;rfl
abbrev KE:=PV->PS->Prop
abbrev KB:=Bool->PS->Prop
abbrev KS:=Fl->Ls->PS->Prop
def wO{α:Type}(o:Option α)(K:α->Prop):Prop:=∀x,o=some x->K x
def wB(b:Bool)(K:Bool->Prop):Prop:=∀c,b=c->K c
def wI(P gi:Prop):Bool->Prop
 |true=>P
 |false=>gi
def wMO(K:D->Prop):MO->Prop
 | .list l=>K (.lst l)
 | .dict l=>K (.gT l)
 |_=>True
def wTO(K:D->Prop):TO->Prop
 | .list l=>K (.lst l)
 | .dict l=>K (.gT l)
 | .dead=>True
def p_(σ:PS)(K:D->Prop):PV->Prop
 | .d x=>K x
 | .aI n=>wO σ.tm[n]? (wTO K)
 | .ax n=>wO σ.pm[n]? (wMO K)
def wTr(K:Bool->Prop):D->Prop
 | .none=>K false
 | .bool b=>K b
 | .int i=>K (!(i==0))
 | .lst l=>fits l=true->K (!l.isEmpty)
 |_=>True
def wIs(C:Nat->List (Nat×PV)->Prop):MO->Prop
 | .inst c fs=>C c fs
 |_=>True
def Sa(K:PV->Prop):Option PV->Prop
 |some v=>K v
 |none=>True
def wGA(σ:PS)(a:Nat)(K:PV->Prop):PV->Prop
 | .ax n=>wO σ.pm[n]? (wIs λ_ fs=>Sa K (p6 a fs))
 |_=>True
def wIT(l:List D)(j:Int)(K:D->Prop):Bool->Prop
 |true=>wO l[j.toNat]? K
 |false=>decide (0<=j+l.length)=true->wO l[(j+l.length).toNat]? K
def wIU(l:List D)(K:D->Prop):D->Prop
 | .int j=>small j=true->wB (decide (0<=j)) (wIT l j K)
 |_=>True
def wIL(l:List D)(K:D->Prop):D->Prop
 | .int j=>small j=true->decide (0<=j)=true->wO l[j.toNat]? K
 |_=>True
def wIK(k:D)(K:D->Prop):D->Prop
 | .tup l=>wIU l K k
 | .lst l=>wIL l K k
 | .gT l=>jm k l=true->wO (kA k l) K
 |_=>True
def wGI(σ:PS)(v:PV)(K:D->Prop):PV->Prop
 | .d k=>p_ σ (wIK k K) v
 |_=>True
def wEqI(i:Int)(K:Bool->Prop):D->Prop
 | .int j=>K (i==j)
 |y=>(qv y&&Nat.ble (min 0 (dj y)) 50)=true->K (bc (.int i) y)
def X7(K:Bool->Prop)(y:D):D->Prop
 | .int i=>wEqI i K y
 |x=>(qv x&&qv y&&Nat.ble (min (dj x) (dj y)) 50)=true->K (bc x y)
def wIn(k:D)(K:Bool->Prop):D->Prop
 | .tup l=>(qv k&&lN l&&Nat.ble (min (dY l) (dj k)) 50)=true->K (l.any λy=>bc y k)
 | .lst l=>(qv k&&lN l&&Nat.ble (min (dY l) (dj k)) 50)=true->K (l.any λy=>bc y k)
 | .gT l=>jm k l=true->K (fM k l)
 |_=>True
def Ov(σ:PS)(y:PV)(K:Bool->Prop):PV->Prop
 | .d k=>p_ σ (wIn k K) y
 |_=>True
def wCo(K:Bool->Prop)(a b:Int):sN->Prop
 | .lt=>K (decide (a<b))
 | .le=>K (decide (a<=b))
 | .gt=>K (decide (b<a))
 | .ge=>K (decide (b<=a))
 |_=>True
def wCj(o:sN)(K:Bool->Prop)(a:Int):D->Prop
 | .int b=>wCo K a b o
 |_=>True
def wCi(o:sN)(K:Bool->Prop)(y:D):D->Prop
 | .int a=>wCj o K a y
 |_=>True
def H3(K:D->Prop):PV->Prop
 | .d x=>K x
 |_=>True
def wCI(o:sN)(K:Bool->Prop)(y x:PV):Prop:=H3 (λa=>H3 (λb=>wCi o K b a) y) x
def UH(x y:PV)(σ:PS)(K:Bool->Prop):sN->Prop
 | .eq=>p_ σ (λa=>p_ σ (λb=>X7 K b a) y) x
 | .ne=>p_ σ (λa=>p_ σ (λb=>X7 (λc=>K (!c)) b a) y) x
 | .is=>isNone y=true->K (isNone x)
 | .RY=>isNone y=true->K (!isNone x)
 | .isin=>Ov σ y K x
 | .eX=>Ov σ y (λc=>K (!c)) x
 |o=>wCI o K y x
def wBo(a b:Int)(K:Int->Prop):mU->Prop
 | .add=>K (a+b)
 | .sub=>K (a-b)
 |o=>wO (arith o a b) K
def wBJ(o:mU)(a:Int)(σ:PS)(K:KE):D->Prop
 | .int b=>wBo a b (λz=>K (.d (.int z)) σ) o
 |_=>True
def wBI(o:mU)(y:PV)(σ:PS)(K:KE):D->Prop
 | .int a=>p_ σ (wBJ o a σ K) y
 |x=>wO (binop o (.d x) y σ) λr=>K r.1 r.2
def UI(o:mU)(σ:PS)(K:KE)(x y:PV):Prop:=match x with
 | .d a=>wBI o y σ K a
 |x=>wO (binop o x y σ) λr=>K r.1 r.2
def wFz(σ:PS)(K:D->PS->Prop):PV->Prop
 | .d x=>K x σ
 |v=>wO (σ.freeze v) λr=>K r.1 r.2
def Fg:List PV->PS->(List D->PS->Prop)->Prop
 |[],σ,K=>K [] σ
 |v::r,σ,K=>wFz σ (λx σ=>Fg r σ λxs σ=>K (x::xs) σ) v
def wCV(tm:List TO)(K:KE)(pm:List MO):PV->Prop
 | .d x=>K (.d x) ⟨pm,tm⟩
 | .ax n=>K (.ax n) ⟨pm,tm⟩
 | .aI _=>True
def wCT(tm:List TO)(K:KE)(v:PV)(pm:List MO):List TO->Prop
 |[]=>wCV tm K pm v
 |_::_=>True
def wCQ(tm:List TO)(K:KE)(q:PV×List MO×List TO):Prop:=wCT tm K q.1 q.2.1 q.2.2
def wCP(sp:Spec)(vs:List PV)(σ:PS)(K:KE):List PV×List Nat->Prop
 |(as,[])=>wO (sp as σ.pm []) (wCQ σ.tm K)
 |(_,_::_)=>wO (cJ sp vs σ) λr=>K r.1 r.2
def wC(sp:Spec)(vs:List PV)(σ:PS)(K:KE):Prop:=wCP sp vs σ K (eY vs 0)
def UJ(K:D->Prop):D->Prop
 | .tup l=>fits l=true->K (.int l.length)
 | .lst l=>fits l=true->K (.int l.length)
 | .gT l=>fits l=true->jn l=true->K (.int l.length)
 |_=>True
def wBi(v:PV)(σ:PS)(K:KE):BI->Prop
 | .len=>p_ σ (UJ λd=>K (.d d) σ) v
 |b=>wO (builtin b v σ) λr=>K r.1 r.2
abbrev WE:=Ls->PS->KE->Prop
abbrev WT:=Ls->PS->KB->Prop
abbrev WS:=Ls->PS->(List PV->PS->Prop)->Prop
def UK(σ:PS)(K:KB)(v:PV):Prop:=p_ σ (wTr λb=>K b σ) v
def kr(f:WE):WE×WT:=(f,λls σ K=>f ls σ λv σ=>UK σ K v)
def X8(as:WS)(ls:Ls)(n:Nat)(v:PV)(σ:PS)(K:KE):Option Nat->Prop
 |some f=>as ls σ λvs σ=>wC (rn n f) (v::vs) σ K
 |none=>True
def wMe(as:WS)(ls:Ls)(n m:Nat)(v:PV)(σ:PS)(K:KE):Prop:=yN m (σ.pA v)=true->as ls σ λvs σ=>wO (hN m v vs σ) λr=>K r.1 r.2
def wMM(as:WS)(ls:Ls)(n m:Nat)(v:PV)(σ:PS)(K:KE):MO->Prop
 | .inst C _=>X8 as ls n v σ K (pB C m)
 | .list l=>yN m (some (.lst l))=true->as ls σ λvs σ=>wO (hN m v vs σ) λr=>K r.1 r.2
 | .dict l=>yN m (some (.gT l))=true->as ls σ λvs σ=>wO (hN m v vs σ) λr=>K r.1 r.2
 | .dead=>True
def wMV(as:WS)(ls:Ls)(n m:Nat)(σ:PS)(K:KE):PV->Prop
 | .ax p=>wO σ.pm[p]? (wMM as ls n m (.ax p) σ K)
 | .d (.cin C)=>X8 as ls n (.d (.cin C)) σ K (pB C m)
 | .aI p=>wMe as ls n m (.aI p) σ K
 |_=>True
structure Ws where
 al:WS
 an:WE
 or:WE
 ta:WT
 to:WT
mutual
noncomputable def wE (n:Nat):E->WE×WT
 | .lit x=>kr λ_ σ K=>K (.d x) σ
 | .loc i=>kr λls σ K=>Sa (λv=>K v σ) (ai id ls[i]?)
 | .glob g=>kr λ_ σ K=>Sa (λv=>K v σ) (ai s8 (l7 g))
 | .bin o a b=>kr λls σ K=>(wE n a).1 ls σ λx σ=>(wE n b).1 ls σ λy σ=>UI o σ K x y
 | .cmp o a b=>kr λls σ K=>(wE n a).1 ls σ λx σ=>(wE n b).1 ls σ λy σ=>UH x y σ (λc=>K (.d (.bool c)) σ) o
 | .nt a=>(λls σ K=>(wE n a).1 ls σ λx σ=>UK σ (λb σ=>K (.d (.bool !b)) σ) x,λls σ K=>(wE n a).2 ls σ λb σ=>K (!b) σ)
 | .and es=>((wEs n es).an,(wEs n es).ta)
 | .or es=>((wEs n es).or,(wEs n es).to)
 | .ite c a b=>(λls σ K=>(wE n c).2 ls σ λb' σ=>wB b' (wI ((wE n a).1 ls σ K) ((wE n b).1 ls σ K)),λls σ K=>(wE n c).2 ls σ λb' σ=>wB b' (wI ((wE n a).2 ls σ K) ((wE n b).2 ls σ K)))
 | .tup es=>kr λls σ K=>(wEs n es).al ls σ λvs σ=>Fg vs σ λxs σ=>fits xs=true->K (.d (.tup xs)) σ
 | .lst es=>kr λls σ K=>(wEs n es).al ls σ λvs σ=>Fg vs σ λxs σ=>fits xs=true->K (.aI σ.tm.length) ⟨σ.pm,σ.tm++[.list xs]⟩
 | .sP es=>kr λls σ K=>(wEs n es).al ls σ λvs σ=>Fg vs σ λxs σ=>wO (Lr xs) λl=>K (.aI σ.tm.length) ⟨σ.pm,σ.tm++[.dict l]⟩
 | .attr e a=>kr λls σ K=>(wE n e).1 ls σ λv σ=>wGA σ a (λr=>K r σ) v
 | .sub e i=>kr λls σ K=>(wE n e).1 ls σ λv σ=>(wE n i).1 ls σ λk σ=>wGI σ v (λr=>K (.d r) σ) k
 | .EH e lo hi=>kr λls σ K=>(wE n e).1 ls σ λv σ=>(wE n lo).1 ls σ λa σ=>(wE n hi).1 ls σ λb σ=>wO (σ.slice v a b) λr=>K r.1 r.2
 | .call f as=>kr λls σ K=>(wEs n as).al ls σ λvs σ=>wC (rn n f) vs σ K
 | .aR e m as=>kr λls σ K=>(wE n e).1 ls σ λv σ=>wMV (wEs n as).al ls n m σ K v
 | .new c as=>kr λls σ K=>(wEs n as).al ls σ λvs σ=>wC (ix (rn n) (yQ c)) vs σ K
 | .bi b e=>kr λls σ K=>(wE n e).1 ls σ λv σ=>wBi v σ K b
 | .comp elt v it ifs=>kr λls σ K=>(wE n it).1 ls σ λx σ=>wO (dZ σ x) λp=>wO (dm (cx (aH n) ifs) (eval (aH n) elt) v p.1 ls p.2.1) λq=>∀s,itClose q.2 p.2.2=s->fits q.1=true->K (.aI s.tm.length) ⟨s.pm,s.tm++[.list q.1]⟩
 | .bad=>kr λ_ _ _=>True
noncomputable def wEs (n:Nat):Es->Ws
 | .nil=>⟨λ_ σ K=>K [] σ,λ_ _ _=>True,λ_ _ _=>True,λ_ σ K=>K true σ,λ_ σ K=>K false σ⟩
 | .cons e es=>⟨λls σ K=>(wE n e).1 ls σ λv σ=>(wEs n es).al ls σ λvs σ=>K (v::vs) σ,
  λls σ K=>match es with
  | .nil=>(wE n e).1 ls σ K
  | .cons _ _=>(wE n e).1 ls σ λv σ=>UK σ (λb σ=>wB b (wI ((wEs n es).an ls σ K) (K v σ))) v,
  λls σ K=>match es with
  | .nil=>(wE n e).1 ls σ K
  | .cons _ _=>(wE n e).1 ls σ λv σ=>UK σ (λb σ=>wB b (wI (K v σ) ((wEs n es).or ls σ K))) v,
  λls σ K=>(wE n e).2 ls σ λb σ=>wB b (wI ((wEs n es).ta ls σ K) (K false σ)),
  λls σ K=>(wE n e).2 ls σ λb σ=>wB b (wI (K true σ) ((wEs n es).to ls σ K))⟩
end
def wSB(a:Nat)(v:PV)(σ:PS)(K:PS->Prop):PV->Prop
 | .ax n=>wO σ.pm[n]? (wIs λC fs=>wy fs 100=true->K ⟨σ.pm.set n (.inst C (s7 a v fs)),σ.tm⟩)
 |_=>True
def wSA(o:PV)(a:Nat)(σ:PS)(K:PS->Prop):PV->Prop
 | .aI _=>True
 | .d x=>wSB a (.d x) σ K o
 | .ax n=>wSB a (.ax n) σ K o
def wSt(σ:PS)(K:KE):PV->Prop
 | .d x=>K (.d x) σ
 | .ax n=>K (.ax n) σ
 | .aI n=>wO (σ.eV (.aI n)) λr=>K r.1 r.2
def wAu2(op:mU)(K:Int->Prop)(a:Int):D->Prop
 | .int b=>wO (arith op a b) K
 |_=>True
def wAu1(op:mU)(K:Int->Prop)(y:D):D->Prop
 | .int a=>wAu2 op K a y
 |_=>True
def wAu(op:mU)(K:Int->Prop)(x y:PV):Prop:=H3 (λa=>H3 (λb=>wAu1 op K b a) y) x
def wSq(r:Ls->PS->Prop)(K:KS)(ls:Ls)(σ:PS):Fl->Prop
 | .next=>r ls σ
 | .cont=>K .cont ls σ
 | .ret v=>K (.ret v) ls σ
mutual
noncomputable def wS (n:Nat):S->Ls->PS->KS->Prop
 | .expr e,ls,σ,K=>(wE n e).1 ls σ λv σ=>H3 (λx=>Fd x=true->K .next ls σ) v
 | .asg i e,ls,σ,K=>(wE n e).1 ls σ λv σ=>K .next (ls.set i (some v)) σ
 | .dW o a e,ls,σ,K=>(wE n e).1 ls σ λv σ=>(wE n o).1 ls σ λov σ=>wSt σ (λv σ=>wSA ov a σ (λσ=>K .next ls σ) v) v
 | .ie o i e,ls,σ,K=>(wE n e).1 ls σ λv σ=>(wE n o).1 ls σ λov σ=>(wE n i).1 ls σ λk σ=>H3 (λk=>wFz σ (λx σ=>wO (σ.Dk ov k x) λσ=>K .next ls σ) v) k
 | .ki is e,ls,σ,K=>(wE n e).1 ls σ λv σ=>H3 (λx=>wO (qW is x ls) λls=>K .next ls σ) v
 | .wu o a op e,ls,σ,K=>(wE n o).1 ls σ λov σ=>wGA σ a (λold=>(wE n e).1 ls σ λv σ=>wAu op (λz=>wSA ov a σ (λσ=>K .next ls σ) (.d (.int z))) old v) ov
 | .ite c a b,ls,σ,K=>(wE n c).2 ls σ λc σ=>wB c (wI (wSs n a ls σ K) (wSs n b ls σ K))
 | .gr i it b,ls,σ,K=>(wE n it).1 ls σ λx σ=>wO (dZ σ x) λp=>wO (dO (execs (aH n) b) (kf i) p.1 ls p.2.1) λq=>∀s,itClose q.2.2 p.2.2=s->K q.1 q.2.1 s
 | .yJ is it b,ls,σ,K=>(wE n it).1 ls σ λx σ=>wO (dZ σ x) λp=>wO (dO (execs (aH n) b) (qW is) p.1 ls p.2.1) λq=>∀s,itClose q.2.2 p.2.2=s->K q.1 q.2.1 s
 | .mh c b,ls,σ,K=>wO (jL (test (aH n) c) (execs (aH n) b) 100000 ls σ) λq=>K q.1 q.2.1 q.2.2
 | .ret e,ls,σ,K=>(wE n e).1 ls σ λv σ=>K (.ret v) ls σ
 | .pass,ls,σ,K=>K .next ls σ
 | .cont,ls,σ,K=>K .cont ls σ
 | .sY o i,ls,σ,K=>(wE n o).1 ls σ λov σ=>(wE n i).1 ls σ λk σ=>H3 (λk=>wO (σ.II ov k) λσ=>K .next ls σ) k
 | .yL o lo,ls,σ,K=>(wE n o).1 ls σ λov σ=>(wE n lo).1 ls σ λk σ=>H3 (λk=>wO (σ.qw ov k) λσ=>K .next ls σ) k
 | .bad,_,_,_=>True
noncomputable def wSs (n:Nat):Ss->Ls->PS->KS->Prop
 | .nil,ls,σ,K=>K .next ls σ
 | .cons s r,ls,σ,K=>wS n s ls σ λfl ls σ=>wSq (λls σ=>wSs n r ls σ K) K ls σ fl
end
def wLe(ts:List TO)(σ:PS)(K:PV×List MO×List TO->Prop):PV->Prop
 | .d x=>K (.d x,σ.pm,qX ts σ.tm)
 | .ax p=>K (.ax p,σ.pm,qX ts σ.tm)
 | .aI i=>wO (leave ts (.aI i) σ) K
def wFi(ts:List TO)(K:PV×List MO×List TO->Prop)(σ:PS):Fl->Prop
 | .ret v=>wLe ts σ K v
 | .next=>K (.d .none,σ.pm,qX ts σ.tm)
 | .cont=>True
def wRF(n:Nat)(args:List PV)(pm:List MO)(ts:List TO)(K:PV×List MO×List TO->Prop):Option Fn->Prop
 |some F=>Nat.beq args.length F.ar=true->wSs n F.body (args.map some++List.replicate (F.nl-F.ar) none) ⟨pm,ts⟩ λfl _ σ=>wFi ts K σ fl
 |none=>True
def wR(n f:Nat)(args:List PV)(pm:List MO)(ts:List TO)(K:PV×List MO×List TO->Prop):Prop:=wRF n args pm ts K (p8 f)
section
def o1{α:Type}(o:Option α)(K:α->Prop):Prop:=∀x,o=some x->K x
def o2{α β:Type}(o:Option (α×β))(K:α->β->Prop):Prop:=∀x y,o=some (x,y)->K x y
section
variable{α β γ δ:Type}
theorem zZ{f:α->Option β}{o}{K:β->Prop}(h:o1 (ai f o) K)(x:α)(e:o=some x):o1 (f x) K:=by subst e;exact h
theorem uP{f:α->Option (β×γ)}{o}{K:β->γ->Prop}(h:o2 (ai f o) K)(x:α)(e:o=some x):o2 (f x) K:=by subst e;exact h
theorem o1c{f:α->δ->Option β}{o}{K:β->Prop}(h:o1 (ai (cX f) o) K)(x:α)(y:δ)(e:o=some (x,y)):o1 (f x y) K:=by subst e;exact h
theorem fP{f:α->δ->Option (β×γ)}{o}{K:β->γ->Prop}(h:o2 (ai (cX f) o) K)(x:α)(y:δ)(e:o=some (x,y)):o2 (f x y) K:=by subst e;exact h
theorem z2{b:Bool}{x:Option β}{K:β->Prop}(h:o1 (dy x b) K)(e:b=true):o1 x K:=by subst e;exact h
theorem IL{b:Bool}{x:Option (β×γ)}{K:β->γ->Prop}(h:o2 (dy x b) K)(e:b=true):o2 x K:=by subst e;exact h
theorem Fh{o:Option (β×γ)}{K:β->γ->Prop}(h:o2 o K):wO o λr=>K r.1 r.2:=λr e=>h r.1 r.2 e
theorem aT{a b:Bool}(h:a=true)(g:b=true):(a&&b)=true:=by rw[h,g];rfl
end
variable{n:Nat}{σ:PS}{ls:Ls}
theorem Ow{K:D->Prop}:∀{m:MO},o1 (H0 m) K->wMO K m
 | .list _,h=>h _ rfl
 | .dict _,h=>h _ rfl
 | .inst ..,_=>trivial
 | .dead,_=>trivial
theorem Ox{K:D->Prop}:∀{m:TO},o1 (toD m) K->wTO K m
 | .list _,h=>h _ rfl
 | .dict _,h=>h _ rfl
 | .dead,_=>trivial
theorem jM{K:D->Prop}:∀{v:PV},o1 (σ.pA v) K->p_ σ K v
 | .d _,h=>h _ rfl
 | .aI _,h=>λt e=>Ox (zZ h t e)
 | .ax _,h=>λt e=>Ow (zZ h t e)
theorem Oy{K:Bool->Prop}:∀{d:D},o1 (yM d) K->wTr K d
 | .none,h=>h _ rfl
 | .bool _,h=>h _ rfl
 | .int _,h=>h _ rfl
 | .lst _,h=>λe=>(z2 h e) _ rfl
 | .str _,_=>trivial
 | .tup _,_=>trivial
 | .gT _,_=>trivial
 | .cin _,_=>trivial
 | .oy _,_=>trivial
theorem Fi{a:Nat}{K:PV->Prop}:∀{v:PV},o1 (σ.E_ v a) K->wGA σ a K v
 | .d _,_=>trivial
 | .aI _,_=>trivial
 | .ax _,h=>λo e=>by
  have h:=zZ h o e;cases o with
  |inst C fs=>
   show Sa K (p6 a fs);have h:o1 (p6 a fs) K:=h;cases q:p6 a fs with
   |none=>trivial
   |some v=>exact h v q
  |_=>trivial
theorem Oz{k:D}{K:PV->Prop}:∀{d:D},o1 (Dj k d) K->wIK k (λx=>K (.d x)) d
 | .tup l,h=>by
  cases k with
  |int j=>
   intro e c ec;have h:=z2 h e;rw[ec]at h;cases c with
   |true=>exactλx e=>(zZ h x e) _ rfl
   |false=>exactλe x e2=>(zZ (z2 h e) x e2) _ rfl
  |_=>trivial
 | .lst l,h=>by
  cases k with
  |int j=>exactλe e2 x e3=>(zZ (z2 h (aT e e2)) x e3) _ rfl
  |_=>trivial
 | .gT l,h=>λe x e2=>(zZ (z2 h e) x e2) _ rfl
 | .none,_=>trivial
 | .bool _,_=>trivial
 | .int _,_=>trivial
 | .str _,_=>trivial
 | .cin _,_=>trivial
 | .oy _,_=>trivial
theorem OA{v:PV}{K:PV->Prop}:∀{k:PV},o1 (σ.wA v k) K->wGI σ v (λx=>K (.d x)) k
 | .d _,h=>jM λd e=>Oz (zZ h d e)
 | .ax _,_=>trivial
 | .aI _,_=>trivial
theorem OB{a b:D}{K:Bool->Prop}(h:o1 (Di a b) K):X7 K b a:=by
 cases a with
 |int i=>
  cases b with
  |int j=>exact h _ rfl
  |_=>exactλe=>(z2 h e) _ rfl
 |_=>exactλe=>(z2 h e) _ rfl
theorem OC{k:D}{K:Bool->Prop}:∀{d:D},o1 (X3 k d) K->wIn k K d
 | .tup _,h=>λe=>(z2 h e) _ rfl
 | .lst _,h=>λe=>(z2 h e) _ rfl
 | .gT _,h=>λe=>(z2 h e) _ rfl
 | .none,_=>trivial
 | .bool _,_=>trivial
 | .int _,_=>trivial
 | .str _,_=>trivial
 | .cin _,_=>trivial
 | .oy _,_=>trivial
theorem z3{x y:PV}{K:Bool->Prop}(h:o1 (isIn σ x y) K):Ov σ y K x:=by
 cases x with
 |d k=>exact jM λd e=>OC (zZ h d e)
 |_=>trivial
theorem z4{x y:PV}{K:Bool->Prop}(h:o1 (isEq σ x y) K):p_ σ (λa=>p_ σ (λb=>X7 K b a) y) x:=
 jM λa ea=>jM λb eb=>OB (zZ (zZ h a ea) b eb)
theorem jN{K:D->Prop}:∀{v:PV},(∀x,v= .d x->K x)->H3 K v
 | .d _,h=>h _ rfl
 | .ax _,_=>trivial
 | .aI _,_=>trivial
theorem OD{a b:Int}{K:Bool->Prop}:∀{o:sN},o1 (Ob o a b) K->wCo K a b o
 | .lt,h=>h _ rfl
 | .le,h=>h _ rfl
 | .gt,h=>h _ rfl
 | .ge,h=>h _ rfl
 | .eq,_=>trivial
 | .ne,_=>trivial
 | .is,_=>trivial
 | .RY,_=>trivial
 | .isin,_=>trivial
 | .eX,_=>trivial
theorem uQ{x y:PV}{K:Bool->Prop}{o:sN}(h:o1 (Oc o x y) K):wCI o K y x:=jN λa ea=>jN λb eb=>by
 subst ea;subst eb;cases a with
 |int a=>
  cases b with
  |int b=>exact OD h
  |_=>trivial
 |_=>trivial
theorem IQ{x y:PV}{K:Bool->Prop}:∀{o:sN},o1 (compare o x y σ) K->UH x y σ K o
 | .eq,h=>z4 h
 | .ne,h=>z4 λb e=>(zZ h b e) _ rfl
 | .is,h=>λe=>(z2 h e) _ rfl
 | .RY,h=>λe=>(z2 h e) _ rfl
 | .isin,h=>z3 h
 | .eX,h=>z3 λb e=>(zZ h b e) _ rfl
 | .lt,h=>uQ h
 | .le,h=>uQ h
 | .gt,h=>uQ h
 | .ge,h=>uQ h
theorem OE{a b:Int}{K:Int->Prop}:∀{o:mU},o1 (arith o a b) K->wBo a b K o
 | .add,h=>h _ rfl
 | .sub,h=>h _ rfl
 | .mul,h=>h
 | .fdiv,h=>h
 | .mod,h=>h
 | .band,h=>h
 | .bor,h=>h
 | .pow,h=>h
theorem IU{o:mU}{x y:PV}{K:KE}(h:o2 (binop o x y σ) K):UI o σ K x y:=by
 cases x with
 |d a=>
  cases a with
  |int a=>
   refine jM λb e=>?_;have h:=uP h _ rfl;have h:=uP (h:o2 (ai (Um o σ (.int a)) (σ.pA y)) K) b e;cases b with
   |int b=>exact OE λz ez=>(uP h z ez) _ _ rfl
   |_=>trivial
  |_=>exact Fh h
 |_=>exact Fh h
theorem Fj{K:D->PS->Prop}:∀{v:PV},o2 (σ.freeze v) K->wFz σ K v
 | .d _,h=>h _ _ rfl
 | .ax _,h=>Fh h
 | .aI _,h=>Fh h
theorem qz:∀{vs:List PV} {σ:PS} {K:List D->PS->Prop},o2 (σ.lj vs) K->Fg vs σ K
 |[],_,_,h=>h _ _ rfl
 |v::r,_,_,h=>Fj λx s e=>qz λxs s2 e2=>(fP (fP h x s e:o2 (fzK _ _ _) _) xs s2 e2) _ _ rfl
theorem qY{sp:Spec}{vs:List PV}{K:KE}(h:o2 (cJ sp vs σ) K):wC sp vs σ K:=by
 unfold wC;cases q:eY vs 0 with
 |mk as is=>
  cases is with
  |nil=>
   intro r e;unfold cJ at h;rw[q]at h;have h:=fP (IL h rfl:o2 (dc1 sp σ as [] []) K) r.1 r.2 e;obtain⟨v,aA,nX⟩:=r;cases nX with
   |nil=>cases v<;>first|exact h _ _ rfl|trivial
   |cons=>trivial
  |cons=>exact Fh h
theorem IV{K:KE}:∀{d:D},o2 (Un σ d) K->UJ (λd=>K (.d d) σ) d
 | .tup _,h=>λe=>(IL h e) _ _ rfl
 | .lst _,h=>λe=>(IL h e) _ _ rfl
 | .gT _,h=>λe e2=>(IL h (aT e e2)) _ _ rfl
 | .none,_=>trivial
 | .bool _,_=>trivial
 | .int _,_=>trivial
 | .str _,_=>trivial
 | .cin _,_=>trivial
 | .oy _,_=>trivial
theorem OF{v:PV}{K:KE}:∀{b:BI},o2 (builtin b v σ) K->wBi v σ K b
 | .len,h=>jM λd e=>IV (uP h d e)
 | .sorted,h=>Fh h
 | .tuple,h=>Fh h
 | .range,h=>Fh h
theorem uR{v:PV}{K:KB}(h:∀b,σ.truth v=some b->K b σ):UK σ K v:=jM λd e=>Oy λb e2=>h b (by show ai yM _=_;rw[e];exact e2)
theorem qZ{α β:Type}{a b:Option (α×β)}{c:Bool}{K:α->β->Prop}{P gi:Prop}(p:o2 a K->P)(q:o2 b K->gi)(h:∀c',c=c'->o2 (match c' with|true=>a|false=>b) K):wB c (wI P gi):=λc' e=>by
 cases c' with
 |true=>exact p (h _ e)
 |false=>exact q (h _ e)
def PE(n:Nat)(e:E)(w:WE×WT):Prop:=(∀{ls σ K},o2 (eval (aH n) e ls σ) K->w.1 ls σ K)/\∀{ls σ K},o2 (test (aH n) e ls σ) K->w.2 ls σ K
structure PEs (n:Nat) (es:Es) (w:Ws):Prop where
 al:∀{ls σ K},o2 (iX (aH n) es ls σ) K->w.al ls σ K
 an:∀{ls σ K},o2 (zW (aH n) es ls σ) K->w.an ls σ K
 or:∀{ls σ K},o2 (Og (aH n) es ls σ) K->w.or ls σ K
 ta:∀{ls σ K},o2 (cx (aH n) es ls σ) K->w.ta ls σ K
 to:∀{ls σ K},o2 (Fc (aH n) es ls σ) K->w.to ls σ K
theorem eO{e:E}{w:WE}{f:FE}(q:ly (aH n) e=km f)(h:∀{ls σ K},o2 (f ls σ) K->w ls σ K):PE n e (kr w):=by
 refine⟨λg=>h ?_,λg=>h λv σ e=>uR λb eb=>?_⟩
 ·unfold eval at g;rw[q]at g;exact g
 ·unfold test at g;rw[q]at g;exact(uP (fP g v σ e:o2 (Of _ _) _) b eb) _ _ rfl
theorem wFg1{o:Option (Option PV)}{σ:PS}{K:KE}(h:o2 (ai (Oe σ) o) K):Sa (λv=>K v σ) (ai id o):=by
 cases o with
 |none=>trivial
 |some v=>
  cases v with
  |none=>trivial
  |some v=>exact h _ _ rfl
theorem wFg2{o:Option D}{σ:PS}{K:KE}(h:o2 (ai (glK σ) o) K):Sa (λv=>K v σ) (ai s8 o):=by
 cases o with
 |none=>trivial
 |some v=>exact h _ _ rfl
theorem OG{as:WS}{fs:FS}{v:PV}{K:KE}{f:Nat}(ha:∀{ls σ K},o2 (fs ls σ) K->as ls σ K)(h:o2 (meF (aH n) fs ls v σ f) K):X8 as ls n v σ K (some f):=ha λvs σ e=>qY (fP h vs σ e)
theorem IW{as:WS}{fs:FS}{v:PV}{K:KE}{m:Nat}(ha:∀{ls σ K},o2 (fs ls σ) K->as ls σ K)(h:o2 (ai (cX (hN m v)) (fs ls σ)) K):as ls σ λvs σ=>wO (hN m v vs σ) λr=>K r.1 r.2:=ha λvs σ e=>Fh (fP h vs σ e)
theorem OH{as:WS}{fs:FS}{v:PV}{K:KE}{m:Nat}(ha:∀{ls σ K},o2 (fs ls σ) K->as ls σ K)(h:o2 (Lv (aH n) m fs ls v σ) K):wMV as ls n m σ K v:=by
 have fnk:∀C,gh σ v=some C->X8 as ls n v σ K (pB C m):=λC e=>by
  have h:o2 (R8 (aH n) m fs ls v σ (gh σ v)) K:=h;rw[e]at h;have h:o2 (ai (meF (aH n) fs ls v σ) (pB C m)) K:=h;cases q:pB C m with
  |none=>trivial
  |some f=>exact OG ha (uP h f q)
 have blt:∀x,gh σ v=none->σ.pA v=x->yN m x=true->as ls σ λvs σ=>wO (hN m v vs σ) λr=>K r.1 r.2:=λx e ex em=>by have h:o2 (R8 (aH n) m fs ls v σ (gh σ v)) K:=h;rw[e]at h;subst ex;exact IW ha (IL h em)
 cases v with
 |d x=>
  cases x with
  |cin C=>exact fnk C rfl
  |_=>trivial
 |aI p=>exactλe=>blt _ rfl rfl e
 |ax p=>
  intro o e;cases o with
  |inst C fs=>exact fnk C (by show ai Fb _=_;rw[e];rfl)
  |list l=>exactλem=>blt _ (by show ai Fb _=_;rw[e];rfl) (by show ai H0 _=_;rw[e];rfl) em
  |dict l=>exactλem=>blt _ (by show ai Fb _=_;rw[e];rfl) (by show ai H0 _=_;rw[e];rfl) em
  |dead=>trivial
mutual
theorem bH:∀e:E,PE n e (wE n e)
 | .lit x=>eO rfl λh=>h _ _ rfl
 | .loc i=>eO rfl wFg1
 | .glob g=>eO rfl wFg2
 | .bin o a b=>eO rfl λh=>(bH a).1 λx σ ex=>(bH b).1 λy σ ey=>IU (fP (fP h x _ ex:o2 (p7 _ _ _ _ _) _) y _ ey)
 | .cmp o a b=>eO rfl λh=>(bH a).1 λx σ ex=>(bH b).1 λy σ ey=>IQ λc ec=>(uP (fP (fP h x _ ex:o2 (p7 _ _ _ _ _) _) y _ ey:o2 (Uq _ _ _ _) _) c ec) _ _ rfl
 | .nt a=>⟨λh=>(bH a).1 λx σ ex=>uR λb eb=>(uP (fP h x _ ex:o2 (ntK _ _) _) b eb) _ _ rfl,λh=>(bH a).2 λb σ eb=>(fP h b _ eb) _ _ rfl⟩
 | .and es=>⟨(fN es).an,(fN es).ta⟩
 | .or es=>⟨(fN es).or,(fN es).to⟩
 | .ite c a b=>⟨λh=>(bH c).2 λb' σ eb=>qZ (bH a).1 (bH b).1 λc' e=>by have h:=fP h b' _ eb;rw[e]at h;cases c'<;>exact h,
  λh=>(bH c).2 λb' σ eb=>qZ (bH a).2 (bH b).2 λc' e=>by have h:=fP h b' _ eb;rw[e]at h;cases c'<;>exact h⟩
 | .tup es=>eO rfl λh=>(fN es).al λvs σ ev=>qz λxs σ ex e=>(IL (fP (fP h vs _ ev:o2 (RZ _ _ _) _) xs _ ex:o2 (Ur _ _) _) e) _ _ rfl
 | .lst es=>eO rfl λh=>(fN es).al λvs σ ev=>qz λxs σ ex e=>(IL (fP (fP h vs _ ev:o2 (RZ _ _ _) _) xs _ ex:o2 (PS.sZ _ _) _) e) _ _ rfl
 | .sP es=>eO rfl λh=>(fN es).al λvs σ ev=>qz λxs σ ex l el=>(uP (fP (fP h vs _ ev:o2 (RZ _ _ _) _) xs _ ex:o2 (Us _ _) _) l el:o2 (PS.newD _ _) _) _ _ rfl
 | .attr e a=>eO rfl λh=>(bH e).1 λv σ ev=>Fi λr er=>(uP (fP h v _ ev:o2 (Lu _ _ _) _) r er) _ _ rfl
 | .sub e i=>eO rfl λh=>(bH e).1 λv σ ev=>(bH i).1 λk σ ek=>OA (K:=λr=>_) λr er=>(uP (fP (fP h v _ ev:o2 (p7 _ _ _ _ _) _) k _ ek:o2 (Ut _ _ _) _) r er) _ _ rfl
 | .EH e lo hi=>eO rfl λh=>(bH e).1 λv σ ev=>(bH lo).1 λa σ ea=>(bH hi).1 λb σ eb=>Fh (fP (fP (fP h v _ ev:o2 (p7 _ _ _ _ _) _) a _ ea:o2 (p7 _ _ _ _ _) _) b _ eb)
 | .call f as=>eO rfl λh=>(fN as).al λvs σ ev=>qY (fP h vs _ ev)
 | .aR e m as=>eO rfl λh=>(bH e).1 λv σ ev=>OH (fN as).al (fP h v _ ev)
 | .new c as=>eO rfl λh=>(fN as).al λvs σ ev=>qY (fP h vs _ ev)
 | .bi b e=>eO rfl λh=>(bH e).1 λv σ ev=>OF (fP h v _ ev)
 | .comp elt v it ifs=>eO rfl λh=>(bH it).1 λx σ ex p ep q eq s es=>es▸λe=>(IL (fP (fP (fP h x _ ex:o2 (coK _ _ _ _ _ _) _) p.1 p.2 ep:o2 (coL _ _ _ _ _ _) _) q.1 q.2 eq:o2 (PS.sZ _ _) _) e) _ _ rfl
 | .bad=>eO rfl λh=>trivial
theorem fN:∀es:Es,PEs n es (wEs n es)
 | .nil=>⟨(λh=>h _ _ rfl),λ_=>trivial,λ_=>trivial,(λh=>h _ _ rfl),(λh=>h _ _ rfl)⟩
 | .cons e es=>⟨λh=>(bH e).1 λv σ ev=>(fN es).al λvs σ Lw=>(fP (fP h v _ ev:o2 (p7 _ _ _ _ _) _) vs _ Lw) _ _ rfl,
  λh=>by
   have ih:=fN es;cases es with
   |nil=>exact(bH e).1 h
   |cons e2 es2=>exact(bH e).1 λv σ ev=>uR λb eb=>qZ (a:=zW _ _ _ _) (b:=some (_,_)) ih.an (λh=>h _ _ rfl) λc' e=>by have h:=uP (fP h v _ ev:o2 (anK _ _ _ _) _) b eb;rw[e]at h;cases c'<;>exact h,
  λh=>by
   have ih:=fN es;cases es with
   |nil=>exact(bH e).1 h
   |cons e2 es2=>exact(bH e).1 λv σ ev=>uR λb eb=>qZ (a:=some (_,_)) (b:=Og _ _ _ _) (λh=>h _ _ rfl) ih.or λc' e=>by have h:=uP (fP h v _ ev:o2 (orK _ _ _ _) _) b eb;rw[e]at h;cases c'<;>exact h,
  λh=>(bH e).2 λb σ eb=>qZ (fN es).ta (λh=>h _ _ rfl) λc' e=>by have h:=fP h b _ eb;rw[e]at h;cases c'<;>exact h,
  λh=>(bH e).2 λb σ eb=>qZ (λh=>h _ _ rfl) (fN es).to λc' e=>by have h:=fP h b _ eb;rw[e]at h;cases c'<;>exact h⟩
end
theorem OI{o v:PV}{a:Nat}{K:PS->Prop}(h:∀n,o= .ax n->o1 (ai (X0 σ n a v) σ.pm[n]?) K):wSB a v σ K o:=by
 cases o with
 |ax p=>
  intro o e;have h:=zZ (h p rfl) o e;cases o with
  |inst C fs=>exactλe=>(z2 h e) _ rfl
  |_=>trivial
 |_=>trivial
theorem Fm{o v:PV}{a:Nat}{K:PS->Prop}(h:o1 (σ.wz o a v) K):wSA o a σ K v:=by
 cases v with
 |aI _=>trivial
 |_=>exact OI λn e=>by subst e;exact h
theorem OJ{K:KE}:∀{v:PV},o2 (σ.eV v) K->wSt σ K v
 | .d _,h=>h _ _ rfl
 | .ax _,h=>h _ _ rfl
 | .aI _,h=>Fh h
theorem OK{op:mU}{K:Int->Prop}{x y:PV}(h:∀a b,x= .d (.int a)->y= .d (.int b)->o1 (arith op a b) K):wAu op K x y:=jN λa ea=>jN λb eb=>by
 cases a with
 |int a=>
  cases b with
  |int b=>exact h _ _ ea eb
  |_=>trivial
 |_=>trivial
def Sb(K:KS)(fl:Fl)(p:Ls×PS):Prop:=K fl p.1 p.2
theorem UL{o:Option PS}{K:KS}(h:o2 (ai (R_ ls) o) (Sb K)):o1 o λσ=>K .next ls σ:=λx e=>uP h x e _ _ rfl
theorem OL{a b:Option (Fl×Ls×PS)}{c:Bool}{K:KS}{P gi:Prop}(p:o2 a (Sb K)->P)(q:o2 b (Sb K)->gi)(h:∀c',c=c'->o2 (match c' with|true=>a|false=>b) (Sb K)):wB c (wI P gi):=qZ p q h
mutual
theorem Lx:∀(s:S) {ls:Ls} {σ:PS} {K:KS},o2 (exec (aH n) s ls σ) (Sb K)->wS n s ls σ K
 | .expr e,_,_,_,h=>(bH e).1 λv σ ev=>jN λx q=>by subst q;exactλe=>(IL (fP h _ _ ev:o2 (exK _ _ _) _) e) _ _ rfl
 | .asg i e,_,_,_,h=>(bH e).1 λv σ ev=>(fP h v _ ev) _ _ rfl
 | .dW o a e,_,_,_,h=>(bH e).1 λv σ ev=>(bH o).1 λov σ eo=>OJ λv σ es=>Fm (UL (fP (fP (fP h _ _ ev:o2 (p7 _ _ _ _ _) _) _ _ eo:o2 (X6 _ _ _ _ _) _) _ _ es:o2 (Uw _ _ _ _ _) _))
 | .ie o i e,_,_,_,h=>(bH e).1 λv σ ev=>(bH o).1 λov σ eo=>(bH i).1 λk σ ek=>jN λx q=>by subst q;exact Fj λd σ ef=>(UL (fP (fP (fP (fP h _ _ ev:o2 (p7 _ _ _ _ _) _) _ _ eo:o2 (p7 _ _ _ _ _) _) _ _ ek:o2 (Ux _ _ _ _ _) _) _ _ ef:o2 (siS _ _ _ _ _) _))
 | .ki is e,_,_,_,h=>(bH e).1 λv σ ev=>jN λx q=>by subst q;exactλl el=>(uP (fP h _ _ ev:o2 (asT _ _ _ _) _) l el) _ _ rfl
 | .wu o a op e,_,_,_,h=>(bH o).1 λov σ eo=>Fi λold er=>(bH e).1 λv σ ev=>OK λx y qx qy z ez=>by have h:=fP (uP (fP h _ _ eo:o2 (auA _ _ _ _ _ _) _) old er:o2 (p7 _ _ _ _ _) _) v _ ev;subst qx;subst qy;exact Fm (UL (uP h z ez))
 | .ite c a b,_,_,_,h=>(bH c).2 λb' σ eb=>OL (q8 a) (q8 b) λc' e=>by have h:=fP h b' _ eb;rw[e]at h;cases c'<;>exact h
 | .gr i it b,_,_,_,h=>(bH it).1 λx σ ex p ep q eq s es=>es▸(uP (fP (fP h _ _ ex:o2 (Uy _ _ _ _ _) _) p.1 p.2 ep:o2 (foI _ _ _ _ _) _) q eq) _ _ rfl
 | .yJ is it b,_,_,_,h=>(bH it).1 λx σ ex p ep q eq s es=>es▸(uP (fP (fP h _ _ ex:o2 (Uy _ _ _ _ _) _) p.1 p.2 ep:o2 (foI _ _ _ _ _) _) q eq) _ _ rfl
 | .mh c b,_,_,_,h=>λq e=>h q.1 q.2 e
 | .ret e,_,_,_,h=>(bH e).1 λv σ ev=>(fP h v _ ev) _ _ rfl
 | .pass,_,_,_,h=>h _ _ rfl
 | .cont,_,_,_,h=>h _ _ rfl
 | .sY o i,_,_,_,h=>(bH o).1 λov σ eo=>(bH i).1 λk σ ek=>jN λx q=>by subst q;exact UL (fP (fP h _ _ eo:o2 (p7 _ _ _ _ _) _) _ _ ek:o2 (deS _ _ _ _) _)
 | .yL o lo,_,_,_,h=>(bH o).1 λov σ eo=>(bH lo).1 λk σ ek=>jN λx q=>by subst q;exact UL (fP (fP h _ _ eo:o2 (p7 _ _ _ _ _) _) _ _ ek:o2 (deL _ _ _ _) _)
 | .bad,_,_,_,_=>trivial
theorem q8:∀(s:Ss) {ls:Ls} {σ:PS} {K:KS},o2 (execs (aH n) s ls σ) (Sb K)->wSs n s ls σ K
 | .nil,_,_,_,h=>h _ _ rfl
 | .cons s r,_,_,_,h=>Lx s λfl p e=>by
  have h:=fP h fl p e;cases fl with
  |next=>exact q8 r h
  |cont=>exact h _ _ rfl
  |ret v=>exact h _ _ rfl
end
theorem OM{ts:List TO}{K:PV×List MO×List TO->Prop}:∀{v:PV},o1 (leave ts v σ) K->wLe ts σ K v
 | .d _,h=>h _ rfl
 | .ax _,h=>h _ rfl
 | .aI _,h=>h
theorem UM{f:Nat}{args:List PV}{pm:List MO}{ts:List TO}{K:PV×List MO×List TO->Prop}(h:o1 (rn (n+1) f args pm ts) K):wR n f args pm ts K:=by
 unfold wR;rw[Ff]at h;cases q:p8 f with
 |none=>trivial
 |some F=>
  rw[q]at h;exactλe=>q8 F.body λfl p ep=>by
   have h:=o1c (z2 h e) fl p ep;cases fl with
   |next=>exact h _ rfl
   |cont=>trivial
   |ret v=>exact OM h
theorem runW(n f:Nat)(args:List PV)(pm:List MO)(ts:List TO):wR n f args pm ts λq=>rn (n+1) f args pm ts=some q:=UM λ_ h=>h
theorem exsW(n:Nat)(s:Ss)(ls:Ls)(σ:PS):wSs n s ls σ λfl bo aN=>execs (aH n) s ls σ=some (fl,bo,aN):=q8 s λ_ _ h=>h
theorem exW(n:Nat)(s:S)(ls:Ls)(σ:PS):wS n s ls σ λfl bo aN=>exec (aH n) s ls σ=some (fl,bo,aN):=Lx s λ_ _ h=>h
theorem evW(n:Nat)(e:E)(ls:Ls)(σ:PS):(wE n e).1 ls σ λv aN=>eval (aH n) e ls σ=some (v,aN):=(bH e).1 λ_ _ h=>h
theorem tsW(n:Nat)(e:E)(ls:Ls)(σ:PS):(wE n e).2 ls σ λv aN=>test (aH n) e ls σ=some (v,aN):=(bH e).2 λ_ _ h=>h
def wRr(n f:Nat)(args:List PV)(pm:List MO)(ts:List TO):Prop:=wR n f args pm ts λq=>rn (n+1) f args pm ts=some q
theorem runS{n f:Nat}{args:List PV}{pm:List MO}{ts:List TO}{r:PV×List MO×List TO}(h:wRr n f args pm ts->rn (n+1) f args pm ts=some r):rn (n+1) f args pm ts=some r:=h (runW n f args pm ts)
def wSr(n:Nat)(s:Ss)(ls:Ls)(σ:PS):Prop:=wSs n s ls σ λfl bo aN=>execs (aH n) s ls σ=some (fl,bo,aN)
theorem exsS{n:Nat}{s:Ss}{ls:Ls}{σ:PS}{r:Fl×Ls×PS}(h:wSr n s ls σ->execs (aH n) s ls σ=some r):execs (aH n) s ls σ=some r:=h (exsW n s ls σ)
def wTr'(n:Nat)(s:S)(ls:Ls)(σ:PS):Prop:=wS n s ls σ λfl bo aN=>exec (aH n) s ls σ=some (fl,bo,aN)
theorem exS{n:Nat}{s:S}{ls:Ls}{σ:PS}{r:Fl×Ls×PS}(h:wTr' n s ls σ->exec (aH n) s ls σ=some r):exec (aH n) s ls σ=some r:=h (exW n s ls σ)
def wEr(n:Nat)(e:E)(ls:Ls)(σ:PS):Prop:=(wE n e).1 ls σ λv aN=>eval (aH n) e ls σ=some (v,aN)
theorem evS{n:Nat}{e:E}{ls:Ls}{σ:PS}{r:PV×PS}(h:wEr n e ls σ->eval (aH n) e ls σ=some r):eval (aH n) e ls σ=some r:=h (evW n e ls σ)
def wBr(n:Nat)(e:E)(ls:Ls)(σ:PS):Prop:=(wE n e).2 ls σ λv aN=>test (aH n) e ls σ=some (v,aN)
theorem tsS{n:Nat}{e:E}{ls:Ls}{σ:PS}{r:Bool×PS}(h:wBr n e ls σ->test (aH n) e ls σ=some r):test (aH n) e ls σ=some r:=h (tsW n e ls σ)
end
theorem rb0{n a pm ts}:rn (n+1) 0 [a] pm ts=ai (cX (mj ts)) (execs (aH n) Bd0 [some a] ⟨pm,ts⟩):=by rw[Ff];rfl
theorem rb17{n a b c pm ts}:rn (n+1) 17 [a,b,c] pm ts=ai (cX (mj ts)) (execs (aH n) UA [some a,some b,some c] ⟨pm,ts⟩):=by rw[Ff];rfl
theorem rb68{n a b pm ts}:rn (n+1) 68 [a,b] pm ts=ai (cX (mj ts)) (execs (aH n) UE [some a,some b] ⟨pm,ts⟩):=by rw[Ff];rfl
theorem UN:builtin .range (.d (.int i)) σ=dy (some (.d (.oy i),σ)) (decide (0<=i)&&decide (i<1000000)):=rfl
theorem UO:dZ σ (.d (.oy i))=dy (some ((List.range i.toNat).map λ(i:Nat)=>D.int i,σ,.none)) (decide (0<=i)&&decide (i<1000000)):=rfl
theorem UP{a b:Nat}(h:a<=b):Nat.ble a b=true:=qQ h
theorem uS{i:Int}(h1:-4611686018427387904<i)(h2:i<4611686018427387904):small i=true:=oA.mpr ⟨h1,h2⟩
theorem cT{α:Type}{l:List α}(h:l.length<=1000000):fits l=true:=qQ h
theorem aq{α β:Type}{f:α->Option β}{o x}(h:o=some x):ai f o=f x:=by rw[h];rfl
section
variable{X:Cx}{ls bo bz eQ pC:Ls}{σ aj aM bJ hO:PS}
theorem ak{i:Nat}{v:PV}(h:ls[i]?=some (some v)):eval X (.loc i) ls σ=some (v,σ):=aq h
theorem aG{x:D}:eval X (.lit x) ls σ=some (.d x,σ):=rfl
theorem Fo{e e2:E}{es:Es}{v:PV}{R}(h1:eval X e ls σ=some (v,aj))(ht:aj.truth v=some true)(h2:zW X (.cons e2 es) ls aj=R):eval X (.and (.cons e (.cons e2 es))) ls σ=R:=(aq h1).trans ((aq ht).trans h2)
theorem cY{e i:E}{v k r:PV}(h1:eval X e ls σ=some (v,aj))(h2:eval X i ls aj=some (k,aM))(h3:aM.wA v k=some r):eval X (.sub e i) ls σ=some (r,aM):=(aq h1).trans ((aq h2).trans (aq h3))
theorem uT{e:E}{a:Nat}{v r:PV}(h1:eval X e ls σ=some (v,aj))(h3:aj.E_ v a=some r):eval X (.attr e a) ls σ=some (r,aj):=(aq h1).trans (aq h3)
theorem wF{e:E}{a n C:Nat}{fs}{r:PV}(h1:eval X e ls σ=some (.ax n,aj))(h2:aj.pm[n]?=some (.inst C fs))(h3:p6 a fs=some r):eval X (.attr e a) ls σ=some (r,aj):=uT h1 ((aq h2).trans h3)
theorem bp:iX X .nil ls σ=some ([],σ):=rfl
theorem au{e:E}{es:Es}{v:PV}{vs:List PV}(h1:eval X e ls σ=some (v,aj))(h2:iX X es ls aj=some (vs,aM)):iX X (.cons e es) ls σ=some (v::vs,aM):=(aq h1).trans (aq h2)
theorem b_{f:Nat}{as:Es}{vs:List PV}{r:PV×PS}(h1:iX X as ls σ=some (vs,aj))(h2:cJ (X.fn f) vs aj=some r):eval X (.call f as) ls σ=some r:=(aq h1).trans h2
theorem mX{e:E}{m C f:Nat}{as:Es}{v:PV}{vs:List PV}{r:PV×PS}(h1:eval X e ls σ=some (v,aj))(h2:gh aj v=some C)(h3:X.aR C m=some f)(h4:iX X as ls aj=some (vs,aM))(h5:cJ (X.fn f) (v::vs) aM=some r):eval X (.aR e m as) ls σ=some r:=by refine(aq h1).trans ?_;show R8 _ _ _ _ _ _ (gh aj v)=_;rw[h2];exact(aq h3).trans ((aq h4).trans h5)
theorem Fp{e:E}{m:Nat}{as:Es}{v:PV}{vs:List PV}{r:PV×PS}(h1:eval X e ls σ=some (v,aj))(h2:gh aj v=none)(h3:yN m (aj.pA v)=true)(h4:iX X as ls aj=some (vs,aM))(h5:hN m v vs aM=some r):eval X (.aR e m as) ls σ=some r:=by refine(aq h1).trans ?_;show R8 _ _ _ _ _ _ (gh aj v)=_;rw[h2];show dy _ (yN m (aj.pA v))=_;rw[h3];exact(aq h4).trans h5
theorem q9{es:Es}{vs:List PV}{xs:List D}(h1:iX X es ls σ=some (vs,aj))(h2:aj.lj vs=some (xs,aM))(h3:fits xs=true):eval X (.tup es) ls σ=some (.d (.tup xs),aM):=(aq h1).trans ((aq h2).trans (congrArg (dy _) h3))
theorem uU{es:Es}{vs:List PV}{xs:List D}(h1:iX X es ls σ=some (vs,aj))(h2:aj.lj vs=some (xs,aM))(h3:fits xs=true):eval X (.lst es) ls σ=some (.aI aM.tm.length,⟨aM.pm,aM.tm++[.list xs]⟩):=(aq h1).trans ((aq h2).trans (congrArg (dy _) h3))
theorem Fq{c:Nat}{as:Es}{vs:List PV}{r:PV×PS}(h1:iX X as ls σ=some (vs,aj))(h2:cJ (X.new c) vs aj=some r):eval X (.new c as) ls σ=some r:=(aq h1).trans h2
theorem dC{o:mU}{a b:E}{x y:PV}{r:PV×PS}(h1:eval X a ls σ=some (x,aj))(h2:eval X b ls aj=some (y,aM))(h3:binop o x y aM=some r):eval X (.bin o a b) ls σ=some r:=(aq h1).trans ((aq h2).trans h3)
theorem bW{o:sN}{a b:E}{x y:PV}{r:Bool}(h1:eval X a ls σ=some (x,aj))(h2:eval X b ls aj=some (y,aM))(h3:compare o x y aM=some r):eval X (.cmp o a b) ls σ=some (.d (.bool r),aM):=(aq h1).trans ((aq h2).trans (aq h3))
theorem uV{b:BI}{e:E}{v:PV}{r:PV×PS}(h1:eval X e ls σ=some (v,aj))(h2:builtin b v aj=some r):eval X (.bi b e) ls σ=some r:=(aq h1).trans h2
theorem iY{c a b:E}{r:Option (PV×PS)}(h1:test X c ls σ=some (true,aj))(h2:eval X a ls aj=r):eval X (.ite c a b) ls σ=r:=(aq h1).trans h2
theorem ig{c a b:E}{r:Option (PV×PS)}(h1:test X c ls σ=some (false,aj))(h2:eval X b ls aj=r):eval X (.ite c a b) ls σ=r:=(aq h1).trans h2
theorem IX{e lo hi:E}{v a b:PV}{r:PV×PS}(h1:eval X e ls σ=some (v,aj))(h2:eval X lo ls aj=some (a,aM))(h3:eval X hi ls aM=some (b,bJ))(h4:bJ.slice v a b=some r):eval X (.EH e lo hi) ls σ=some r:=(aq h1).trans ((aq h2).trans ((aq h3).trans h4))
theorem q_{el it:E}{v:Nat}{fs:Es}{x:PV}{items ys:List D}{fy:Lock}(h1:eval X it ls σ=some (x,aj))(h2:dZ aj x=some (items,aM,fy))(h3:dm (cx X fs) (eval X el) v items ls aM=some (ys,bJ))(h4:fits ys=true)(h5:itClose bJ fy=hO):eval X (.comp el v it fs) ls σ=some (.aI hO.tm.length,⟨hO.pm,hO.tm++[.list ys]⟩):=by subst h5;exact(aq h1).trans ((aq h2).trans ((aq h3).trans (congrArg (dy _) h4)))
theorem oB{ts:FT}{el:FE}{v:Nat}{x y:D}{r ys:List D}{e:PV}(h1:ts (ls.set v (some (.d x))) σ=some (true,aj))(h2:el (ls.set v (some (.d x))) aj=some (e,aM))(h3:aM.freeze e=some (y,bJ))(h4:dm ts el v r ls bJ=some (ys,hO)):dm ts el v (x::r) ls σ=some (y::ys,hO):=(aq h1).trans ((aq h2).trans ((aq h3).trans (aq h4)))
theorem Ly{ts:FT}{el:FE}{v:Nat}{x:D}{r:List D}{R}(h1:ts (ls.set v (some (.d x))) σ=some (false,aj))(h4:dm ts el v r ls aj=R):dm ts el v (x::r) ls σ=R:=(aq h1).trans h4
theorem mY{e:E}{es:Es}{R}(h1:test X e ls σ=some (true,aj))(h2:cx X es ls aj=R):cx X (.cons e es) ls σ=R:=(aq h1).trans h2
theorem gM{e:E}{p:Bool}(h1:test X e ls σ=some (p,aj)):cx X (.cons e .nil) ls σ=some (p,aj):=by refine(aq h1).trans ?_;cases p<;>rfl
theorem ON{e:E}{es:Es}(h1:test X e ls σ=some (false,aj)):cx X (.cons e es) ls σ=some (false,aj):=aq h1
theorem bC{i:Nat}{e:E}{v:PV}(h1:eval X e ls σ=some (v,aj)):exec X (.asg i e) ls σ=some (.next,ls.set i (some v),aj):=aq h1
theorem qA{e:E}{x:D}(h1:eval X e ls σ=some (.d x,aj))(h2:Fd x=true):exec X (.expr e) ls σ=some (.next,ls,aj):=(aq h1).trans (congrArg (dy _) h2)
theorem fz{e:E}{v:PV}(h1:eval X e ls σ=some (v,aj)):exec X (.ret e) ls σ=some (.ret v,ls,aj):=aq h1
theorem bI{c:E}{a b:Ss}{r:Option (Fl×Ls×PS)}(h1:test X c ls σ=some (true,aj))(h2:execs X a ls aj=r):exec X (.ite c a b) ls σ=r:=(aq h1).trans h2
theorem aS{c:E}{a b:Ss}{r:Option (Fl×Ls×PS)}(h1:test X c ls σ=some (false,aj))(h2:execs X b ls aj=r):exec X (.ite c a b) ls σ=r:=(aq h1).trans h2
theorem uW{i:Nat}{it:E}{b:Ss}{x:PV}{items:List D}{fy:Lock}{fl:Fl}(h1:eval X it ls σ=some (x,aj))(h2:dZ aj x=some (items,aM,fy))(h3:dO (execs X b) (kf i) items ls aM=some (fl,pC,bJ)):exec X (.gr i it b) ls σ=some (fl,pC,itClose bJ fy):=(aq h1).trans ((aq h2).trans (aq h3))
theorem fJ{body:Ls->PS->Option (Fl×Ls×PS)}{put:D->Ls->Option Ls}{x:D}{r:List D}{R}(hp:put x ls=some bz)(hb:body bz σ=some (.next,eQ,aM))(hr:dO body put r eQ aM=R):dO body put (x::r) ls σ=R:=by show ai (Uv body (dO body put r) σ) (put x ls)=R;rw[hp];show ai (cX (X5 _)) (body bz σ)=R;rw[hb];exact hr
theorem z6{body:Ls->PS->Option (Fl×Ls×PS)}{put:D->Ls->Option Ls}{x:D}{r:List D}{R}(hp:put x ls=some bz)(hb:body bz σ=some (.cont,eQ,aM))(hr:dO body put r eQ aM=R):dO body put (x::r) ls σ=R:=by show ai (Uv body (dO body put r) σ) (put x ls)=R;rw[hp];show ai (cX (X5 _)) (body bz σ)=R;rw[hb];exact hr
theorem OO{body:Ls->PS->Option (Fl×Ls×PS)}{put:D->Ls->Option Ls}{x:D}{r:List D}{v}(hp:put x ls=some bz)(hb:body bz σ=some (.ret v,eQ,aM)):dO body put (x::r) ls σ=some (.ret v,eQ,aM):=by show ai (Uv body (dO body put r) σ) (put x ls)=_;rw[hp];show ai (cX (X5 _)) (body bz σ)=_;rw[hb];rfl
theorem bX{sp:Spec}{vs:List PV}{pm aA:List MO}{tm:List TO}{x:D}(h0:eY vs 0=(vs,[]))(h:sp vs pm []=some (.d x,aA,[])):cJ sp vs ⟨pm,tm⟩=some (.d x,⟨aA,tm⟩):=by unfold cJ;rw[h0];exact aq h
theorem lQ{i:Nat}{b:Bool}(h:ls[i]?=some (some (.d (.bool b)))):test X (.loc i) ls σ=some (b,σ):=Eq.trans (aq (f:=cX Of) (ak (X:=X) h)) rfl
theorem tOf{e:E}{b:Bool}(hp:test X e ls σ=ai (cX Of) (eval X e ls σ))(h:eval X e ls σ=some (.d (.bool b),aj)):test X e ls σ=some (b,aj):=hp.trans (aq h)
theorem OP{e:E}{b:Bool}(h:test X e ls σ=some (b,aj)):test X (.nt e) ls σ=some (!b,aj):=aq h
theorem mZ{e e2:E}{b c:Bool}(h1:test X e ls σ=some (b,σ))(h2:test X e2 ls σ=some (c,σ)):test X (.and (.cons e (.cons e2 .nil))) ls σ=some (b&&c,σ):=by
 cases b with
 |true=>exact mY h1 (gM h2)
 |false=>exact aq h1
theorem tOr{e e2:E}{b c:Bool}(h1:test X e ls σ=some (b,σ))(h2:test X e2 ls σ=some (c,σ)):test X (.or (.cons e (.cons e2 .nil))) ls σ=some (b||c,σ):=by
 cases b with
 |true=>exact aq h1
 |false=>
  refine(aq h1).trans ((aq h2).trans ?_);cases c<;>rfl
theorem tOrF{e e2:E}{es:Es}{R}(h1:test X e ls σ=some (false,aj))(h2:test X (.or (.cons e2 es)) ls aj=R):test X (.or (.cons e (.cons e2 es))) ls σ=R:=(aq h1).trans h2
theorem tOr1{e:E}{b:Bool}(h1:test X e ls σ=some (b,aj)):test X (.or (.cons e .nil)) ls σ=some (b,aj):=by refine(aq h1).trans ?_;cases b<;>rfl
theorem Ft{e e2:E}{es:Es}{b c:Bool}(h1:test X e ls σ=some (b,σ))(h2:test X (.and (.cons e2 es)) ls σ=some (c,σ)):test X (.and (.cons e (.cons e2 es))) ls σ=some (b&&c,σ):=by
 cases b with
 |true=>exact mY h1 h2
 |false=>exact aq h1
theorem wG{a b:E}{i j:Int}(h1:eval X a ls σ=some (.d (.int i),σ))(h2:eval X b ls σ=some (.d (.int j),σ)):test X (.cmp .eq a b) ls σ=some (i==j,σ):=aq (bW h1 h2 rfl)
theorem UQ{a b:E}{i j:Int}(h1:eval X a ls σ=some (.d (.int i),σ))(h2:eval X b ls σ=some (.d (.int j),σ)):test X (.cmp .ne a b) ls σ=some (!(i==j),σ):=aq (bW h1 h2 rfl)
theorem tLt{a b:E}{i j:Int}(h1:eval X a ls σ=some (.d (.int i),σ))(h2:eval X b ls σ=some (.d (.int j),σ)):test X (.cmp .lt a b) ls σ=some (decide (i<j),σ):=aq (bW h1 h2 rfl)
theorem tGt{a b:E}{i j:Int}(h1:eval X a ls σ=some (.d (.int i),σ))(h2:eval X b ls σ=some (.d (.int j),σ)):test X (.cmp .gt a b) ls σ=some (decide (j<i),σ):=aq (bW h1 h2 rfl)
theorem UR{a b:E}{i j:Int}(h1:eval X a ls σ=some (.d (.int i),σ))(h2:eval X b ls σ=some (.d (.int j),σ)):eval X (.cmp .eq a b) ls σ=some (.d (.bool (i==j)),σ):=bW h1 h2 rfl
theorem US{c:E}{a b:Ss}{t:Bool}{r}(h:test X c ls σ=some (t,aj))(h1:t=true->execs X a ls aj=r)(h2:t=false->execs X b ls aj=r):exec X (.ite c a b) ls σ=r:=by
 cases t with
 |true=>exact bI h (h1 rfl)
 |false=>exact aS h (h2 rfl)
theorem UT{c a b:E}{t:Bool}{r}(h:test X c ls σ=some (t,aj))(h1:t=true->eval X a ls aj=r)(h2:t=false->eval X b ls aj=r):eval X (.ite c a b) ls σ=r:=by
 cases t with
 |true=>exact iY h (h1 rfl)
 |false=>exact ig h (h2 rfl)
end
theorem goP{C:Prop}(k:∀G:Prop,(C->G)->G):C:=k C id
theorem delD{p:Nat}{k:D}{l l':List (D×D)}{σ:PS}(h:σ.pm[p]?=some (.dict l))(d:jm k l=true)(a:fM k l=true)(f:fits l=true)(q:mi k l=l'):σ.II (.ax p) k=some ⟨σ.pm.set p (.dict l'),σ.tm⟩:=by
 have e:σ.dictOf (.ax p)=some l:=by show ai Ln _=_;rw[h];rfl
 show ai (PS.diK σ (.ax p) k) (σ.dictOf (.ax p))=_;rw[e];show dy _ (jm k l&&fM k l&&fits l)=_;rw[d,a,f,q];show ai _ (ai Ln _)=_;rw[h];rfl
theorem itP{p:Nat}{l:List D}{σ:PS}(h:σ.pm[p]?=some (.list l)):dZ σ (.ax p)=some (l,⟨σ.pm.set p .dead,σ.tm⟩,.ax p (.list l)):=by show ai (ioP σ p) _=_;rw[h];rfl
theorem popP{p:Nat}{d:D}{l:List D}{σ:PS}(h:σ.pm[p]?=some (.list (l++[d])))(f:fits (l++[d])=true):hN 1 (.ax p) [] σ=some (.d d,⟨σ.pm.set p (.list l),σ.tm⟩):=by show ai (poD σ (.ax p)) (ai IG _)=_;rw[h];show ai (poK σ (.ax p) (l++[d])) (l++[d]).getLast?=_;rw[List.getLast?_concat];show dy (ai _ (ai _ (ai IG _))) (fits (l++[d]))=_;rw[f,h,List.dropLast_concat];rfl
theorem dtP{p:Nat}{i:Int}{l l':List D}{σ:PS}(h:σ.pm[p]?=some (.list l))(i0:0<=i)(s:small i=true)(f:fits l=true)(q:l.take i.toNat=l'):σ.qw (.ax p) (.int i)=some ⟨σ.pm.set p (.list l'),σ.tm⟩:=by show ai (PS.dtK σ (.ax p) i) (ai IG _)=_;rw[h];show dy (ai _ (ai IG _)) (decide (0<=i)&&small i&&fits l)=_;rw[ed i0,s,f,h,q];rfl
theorem OQ{n:Nat}(h:n<4611686018427387904):small (n:Int)=true:=uS (by lia) (by lia)
theorem Fu{p:Nat}{k v:D}{l l':List (D×D)}{σ:PS}(h:σ.pm[p]?=some (.dict l))(d:jm k l=true)(f:fits l=true)(q:dput k v l=l'):σ.Dk (.ax p) k v=some ⟨σ.pm.set p (.dict l'),σ.tm⟩:=by show ai (PS.siK σ (.ax p) k v) (ai Ln _)=_;rw[h];show dy (ai _ (ai Ln _)) (jm k l&&fits l)=_;rw[d,f,h,q];rfl
theorem Dn{p:Nat}{d:D}{l l':List D}{σ:PS}(h:σ.pm[p]?=some (.list l))(f:fits l=true)(q:l++[d]=l'):hN 0 (.ax p) [.d d] σ=some (.d .none,⟨σ.pm.set p (.list l'),σ.tm⟩):=by show ai (apK σ (.ax p) d) (ai IG _)=_;rw[h];show dy (ai _ (ai _ (ai IG _))) (fits l)=_;rw[f,h,q];rfl
theorem getP{p:Nat}{k e x:D}{l:List (D×D)}{σ:PS}(h:σ.pm[p]?=some (.dict l))(d:jm k l=true)(q:(kA k l).getD e=x):hN 2 (.ax p) [.d k,.d e] σ=some (.d x,σ):=by show ai (X4 σ k e) (ai Ln _)=_;rw[h];show dy _ (jm k l)=_;rw[d,<-q];rfl
theorem kB{b:Bool}(h:b=true):(!b)=false:=by rw[h];rfl
theorem m5{b:Bool}(h:b=false):(!b)=true:=by rw[h];rfl
theorem dn{sp:Spec}{vs as:List PV}{pm aA:List MO}{tm iq:List TO}{g:Nat}{t t':TO}{x:D}(hp:eY vs 0=(as,[g]))(hg:tm[g]?=some t)(ht:tkK t []=some [t])(h:sp as pm [t]=some (.d x,aA,[t']))(s:tm.set g t'=iq):cJ sp vs ⟨pm,tm⟩=some (.d x,⟨aA,iq⟩):=by unfold cJ;rw[hp];show ai _ (ai (Uk (some [])) tm[g]?)=_;rw[hg];show ai _ (tkK t [])=_;rw[ht];show ai _ (sp as pm [t])=_;rw[h,<-s];rfl
theorem UU{n:Nat}{l:List D}{pm:List MO}{tm:List TO}(h:tm[n]?=some (.list l))(f:fits l=true):builtin .tuple (.aI n) ⟨pm,tm⟩=some (.d (.tup l),⟨pm,tm⟩):=by show ai (tuK _) (ai toD tm[n]?)=_;rw[h];show dy _ (fits l)=_;rw[f];rfl
theorem Fv{g:Nat}{k v:D}{l l':List (D×D)}{pm:List MO}{tm:List TO}(h:tm[g]?=some (.dict l))(d:jm k l=true)(f:fits l=true)(q:dput k v l=l'):PS.Dk ⟨pm,tm⟩ (.aI g) k v=some ⟨pm,tm.set g (.dict l')⟩:=by show ai (PS.siK _ (.aI g) k v) (ai Uj tm[g]?)=_;rw[h];show dy (ai _ (ai Uj tm[g]?)) (jm k l&&fits l)=_;rw[d,f,h,q];rfl
theorem UW{g:Nat}{d:D}{l l':List D}{pm:List MO}{tm:List TO}(h:tm[g]?=some (.list l))(f:fits l=true)(q:l++[d]=l'):hN 0 (.aI g) [.d d] ⟨pm,tm⟩=some (.d .none,⟨pm,tm.set g (.list l')⟩):=by show ai (apK _ (.aI g) d) (ai Ui tm[g]?)=_;rw[h];show dy (ai _ (ai _ (ai Ui tm[g]?))) (fits l)=_;rw[f,h,q];rfl
theorem Lz{g:Nat}{l:List (D×D)}{is:List Int}{pm:List MO}{tm:List TO}(h:tm[g]?=some (.dict l))(hi:intsOf (l.map (·.1))=some is)(b:Nat.blt is.length 64=true)(f:fits ((sortI is).map D.int)=true):builtin .sorted (.aI g) ⟨pm,tm⟩=some (.aI tm.length,⟨pm,tm++[.list ((sortI is).map .int)]⟩):=by show ai (Uo _) (ai toD tm[g]?)=_;rw[h];show ai (soK _) (intsOf (l.map (·.1)))=_;rw[hi];show dy (dy _ (fits _)) (Nat.blt is.length 64)=_;rw[b,f];rfl
theorem wH(a b:Nat):Nat.beq a b=decide (a=b):=by
 by_cases h:a=b
 ·subst h;simp
 ·cases q:Nat.beq a b with
  |false=>simp[h]
  |true=>exact absurd (kh q) h
theorem cG{n f:Nat}{F:Fn}{args:List PV}{pm:List MO}{ts:List TO}(EJ:Ls)(hF:p8 f=some F)(ha:args.length=F.ar)(hl:args.map some++List.replicate (F.nl-F.ar) none=EJ):
  rn (n+1) f args pm ts=ai (cX (mj ts)) (execs (aH n) F.body EJ ⟨pm,ts⟩):=by
 rw[Ff,hF];subst hl;show dy _ (Nat.beq _ _)=_;rw[ha,Nat.beq_refl];rfl
theorem av{X:Cx}{s:S}{r:Ss}{ls bz:Ls}{σ aj:PS}(h:exec X s ls σ=some (.next,bz,aj)):execs X (.cons s r) ls σ=execs X r bz aj:=congrArg (uO (execs X r)) h
theorem bS{X:Cx}{s:S}{r:Ss}{ls bz:Ls}{σ aj:PS}{v:PV}(h:exec X s ls σ=some (.ret v,bz,aj)):execs X (.cons s r) ls σ=some (.ret v,bz,aj):=congrArg (uO (execs X r)) h
theorem sQ{X:Cx}{s:S}{r:Ss}{ls bz:Ls}{σ aj:PS}{R:Option (Fl×Ls×PS)}(h:exec X s ls σ=some (.next,bz,aj))(k:execs X r bz aj=R):execs X (.cons s r) ls σ=R:=(av h).trans k
theorem qB{X:Cx}{s:S}{r:Ss}{ls bz:Ls}{σ aj:PS}(h:exec X s ls σ=some (.cont,bz,aj)):execs X (.cons s r) ls σ=some (.cont,bz,aj):=congrArg (uO (execs X r)) h
theorem jO{n f:Nat}{F:Fn}{args:List PV}{pm:List MO}{ts:List TO}{ls EJ:Ls}{v:PV}{σ:PS}{R}(hF:p8 f=some F)(ha:args.length=F.ar)(hl:args.map some++List.replicate (F.nl-F.ar) none=EJ)
  (e:execs (aH n) F.body EJ ⟨pm,ts⟩=some (.ret v,ls,σ)) (k:leave ts v σ=R):rn (n+1) f args pm ts=R:=(cG EJ hF ha hl).trans ((congrArg (ai (cX (mj ts))) e).trans k)
theorem Fw{n f:Nat}{F:Fn}{args:List PV}{pm:List MO}{ts:List TO}{ls EJ:Ls}{σ:PS}{R}(hF:p8 f=some F)(ha:args.length=F.ar)(hl:args.map some++List.replicate (F.nl-F.ar) none=EJ)
  (e:execs (aH n) F.body EJ ⟨pm,ts⟩=some (.next,ls,σ)) (k:leave ts (.d .none) σ=R):rn (n+1) f args pm ts=R:=(cG EJ hF ha hl).trans ((congrArg (ai (cX (mj ts))) e).trans k)
theorem aP{X:Cx}{ls:Ls}{σ:PS}:execs X .nil ls σ=some (.next,ls,σ):=rfl
def m8:List (Nat×PV):=[(0,.ax 1),(9,.ax 2),(8,.ax 3),(7,.ax 4),(6,.ax 5),(5,.ax 6),(4,.ax 7),(3,.ax 8),(2,.d (.int 0)),(1,.d (.int 0))]
def bK:List (Nat×PV):=[(23,.ax 0),(15,.d (.int 0)),(25,.d (.int 200)),(24,.d (.int 40))]
def fQ(b t h ru:Nat)(m:Int)(bR:Bool)(tw:PV)(dp:Int):List (Nat×PV):=
 [(22,.ax h),(21,.d (.int m)),(20,.ax ru),(19,.ax (b+2)),(18,.ax (b+3)),(17,.ax t),(16,.ax (b+5)),(15,.d (.int dp)),(14,.ax (b+6)),(13,.d (.bool bR)),(12,tw),(11,.d (.str [])),(10,.d (.int 0))]
structure bZ (pm:List MO) (b t h ru:Nat) (m:Int) (bR:Bool) (tw:PV) (dp:Int) (as kn:List (D×D)) (tl aX:List D):Prop where
 iI:pm[b]?=some (.inst 2 (fQ b t h ru m bR tw dp))
 iR:pm[ru]?=some (.dict [(.int 2,.cin 4)])
 iA:pm[b+2]?=some (.dict as)
 iK:pm[b+3]?=some (.dict kn)
 iT:pm[t]?=some (.list tl)
 iN:pm[b+6]?=some (.inst 1 [(0,.ax (b+7))])
 iL:pm[b+7]?=some (.list aX)
 ht:t=b+4\/b+8<=t
 hr:ru<b\/ru=b+1
section
variable{pm:List MO}{b t h ru:Nat}{m:Int}{bR:Bool}{tw:PV}{dp:Int}{as kn:List (D×D)}{tl aX:List D}
theorem f21(n:Nat)(R:bZ pm b t h ru m bR tw dp as kn tl aX)(l1:aX.length<=1000000)(l2:tl.length<=1000000):
  rn (n+1) 21 [.ax b] pm []=some (.d (.tup [.int aX.length,.int tl.length]),pm,[]):=by
 dsimp! [R.iN,R.iL,R.iT,↑cT l1,↑cT l2]
theorem f19(n:Nat)(R:bZ pm b t h ru m bR tw dp as kn tl aX)(l1:aX.length<=1000000)(c:Int):
  rn (n+2) 19 [.ax b,.d (.int c)] pm []=some (.d .none,if bR then pm.set (b+7) (.list (aX++[.tup [.int c,.int 0]]))else pm,[]):=by
 have e1:rn (n+1) 1 [.ax (b+6),.d (.int c),.d (.int 0)] pm []=some (.d .none,pm.set (b+7) (.list (aX++[.tup [.int c,.int 0]])),[]):=by dsimp! [R.iN,R.iL,Dn R.iL (cT l1) rfl]
 cases bR<;>dsimp! [R.iN,e1]
end
abbrev gi:=Int×Int
def eF(p:gi):D:= .tup [.int p.1,.int p.2]
def cQ(tl:List gi):List (D×D):=tl.map λp=>(eF p,.int 1)
def fk(tl:List gi):List D:=tl.map eF
theorem wJ(p q:gi):bc (eF p) (eF q)=decide (p=q):=by obtain⟨a,b⟩:=p;obtain⟨c,d⟩:=q;show(a==c&&(b==d&&true))=_;by_cases h1:a=c<;>by_cases h2:b=d<;>simp[h1,h2]
theorem OR(p:gi):keyOk (eF p)=true:=rfl
theorem Dp(p:gi){l:List (D×D)}(h:∀x∈l,∃q,x.1=eF q):jm (eF p) l=true:=by
 unfold jm;rw[OR,Bool.true_and];cases l with
 |nil=>rfl
 |cons x r=>
  obtain⟨q,e⟩:=h x (.head _);show Nat.beq (cy x.1) (cy (eF p))=true;rw[e];rfl
theorem uX(tl:List gi):∀x∈cQ tl,∃q,x.1=eF q:=by intro x hx;obtain⟨q,_,e⟩:=qS.mp hx;exact⟨q,by rw[<-e]⟩
theorem uY(p:gi):∀tl:List gi,fM (eF p) (cQ tl)=tl.contains p
 |[]=>rfl
 |q::r=>by show(bc (eF p) (eF q)||fM (eF p) (cQ r))=_;rw[wJ,uY p r,List.contains_cons,show(p==q)=decide (p=q)from by by_cases e:p=q<;>simp[e]]
theorem Fx(p:gi):∀tl:List gi,p∉tl->dput (eF p) (.int 1) (cQ tl)=cQ (tl++[p])
 |[],_=>rfl
 |q::r,h=>by show(if bc (eF p) (eF q)then _ else _)=_;rw[wJ,dU (λ(e:p=q)=>h (by rw[e];exact .head _))];show(eF q,D.int 1)::dput (eF p) (.int 1) (cQ r)=_;rw[Fx p r λz=>h (.tail _ z)];rfl
theorem Fy(p:gi):∀tl:List gi,p∉tl->mi (eF p) (cQ (tl++[p]))=cQ tl
 |[],_=>by show(if bc (eF p) (eF p)then _ else _)=_;rw[wJ,ed rfl];rfl
 |q::r,h=>by show(if bc (eF p) (eF q)then _ else _)=_;rw[wJ,dU (λ(e:p=q)=>h (by rw[e];exact .head _))];show(eF q,D.int 1)::mi (eF p) (cQ (r++[p]))=_;rw[Fy p r λz=>h (.tail _ z)];rfl
theorem IY(p:gi)(tl:List gi):mi (eF p) (cQ (p::tl))=cQ tl:=by show(if bc (eF p) (eF p)then _ else _)=_;rw[wJ,ed rfl];rfl
def qd(aE:Int->Int->Bool)(kn:List (D×D)):Prop:=∀x∈kn,∃q:gi,x=(eF q,.bool (aE q.1 q.2))
section
variable{aE:Int->Int->Bool}{kn:List (D×D)}
theorem qd.keys(k:qd aE kn):∀x∈kn,∃q,x.1=eF q:=λx hx=>by obtain⟨q,e⟩:=k x hx;exact⟨q,by rw[e]⟩
theorem qd.get(k:qd aE kn)(p:gi)(h:fM (eF p) kn=true):kA (eF p) kn=some (.bool (aE p.1 p.2)):=by
 induction kn with
 |nil=>cases h
 |cons x r ih=>
  obtain⟨q,rfl⟩:=k x (.head _);show(if bc (eF p) (eF q)then _ else _)=_;rw[wJ];by_cases e:p=q
  ·subst e;simp
  ·have h:(bc (eF p) (eF q)||fM (eF p) r)=true:=h;rw[wJ,dU e,Bool.false_or]at h;rw[dU e];exact ih (λy hy=>k y (.tail _ hy)) h
theorem qd.put(k:qd aE kn)(p:gi):qd aE (dput (eF p) (.bool (aE p.1 p.2)) kn):=by
 induction kn with
 |nil=>
  intro x hx;have hx:x∈[(eF p,D.bool (aE p.1 p.2))]:=hx;rw[jI]at hx;exact⟨p,hx⟩
 |cons y r ih=>
  obtain⟨q,rfl⟩:=k y (.head _);have ih:=ih λz hz=>k z (.tail _ hz);intro x hx;have hx:x∈(if bc (eF p) (eF q)then(eF q,D.bool (aE p.1 p.2))::r else(eF q,D.bool (aE q.1 q.2))::dput (eF p) (.bool (aE p.1 p.2)) r):=hx;rw[wJ]at hx;by_cases e:p=q
  ·subst e;rw[ed rfl,if_pos rfl]at hx;rcases dJ.mp hx with hx|hx
   ·exact⟨p,hx⟩
   ·exact k x (.tail _ hx)
  ·rw[dU e,if_neg ∅]at hx;rcases dJ.mp hx with hx|hx
   ·exact⟨q,hx⟩
   ·exact ih x hx
theorem kC(a v:D):∀l:List (D×D),(dput a v l).length<=l.length+1
 |[]=>dA _
 |(x,u)::r=>by
  show(if bc a x then _ else _:List (D×D)).length<=_;split
  ·simp
  ·have:=kC a v r;simp only[fw];omega
end
def tI(kn:List (D×D)):List gi->List (D×D)
 |[]=>kn
 |p::r=>tI (dput (eF p) (.bool true) kn) r
section
variable{pm:List MO}{b t h ru:Nat}{m:Int}{bR:Bool}{tw:PV}{dp:Int}{kn:List (D×D)}{tl aX:List D}
theorem c_{l:List MO}{i j:Nat}{x y:MO}(h:l[i]?=some y):(l.set i x)[j]?=if i=j then some x else l[j]?:=by rw[dz];have:=(gf.mp h).1;simp[this]
theorem bZ.lt{as:List (D×D)}(R:bZ pm b t h ru m bR tw dp as kn tl aX):b+7<pm.length:=(gf.mp R.iL).1
def bL(b:Nat)(pm aA:List MO):Prop:=pm.length<=aA.length/\∀j,j<b->aA[j]?=pm[j]?
theorem bL.refl:bL b pm pm:=⟨dA _,λ_ _=>rfl⟩
theorem bL.trans{a c:List MO}(x:bL b pm a)(y:bL b a c):bL b pm c:=⟨aW x.1 y.1,λj hj=>(y.2 j hj).trans (x.2 j hj)⟩
theorem bL.set{i:Nat}{x:MO}(hi:b<=i):bL b pm (pm.set i x):=⟨by rw[gq];exact dA _,λj hj=>by rw[bq ()]⟩
theorem bZ.wz{as:List (D×D)}(R:bZ pm b t h ru m bR tw dp as kn tl aX)(as':List (D×D)):bZ (pm.set (b+2) (.dict as')) b t h ru m bR tw dp as' kn tl aX:=by have ht:=R.ht;have hr:=R.hr;constructor<;>first|exact ht|exact hr|(rw[c_ R.iA];first|(rw[if_neg ()];first|exact R.iI|exact R.iR|exact R.iK|exact R.iT|exact R.iN|exact R.iL)|(rw[if_pos rfl]))
theorem bZ.setK{as:List (D×D)}(R:bZ pm b t h ru m bR tw dp as kn tl aX)(hU:List (D×D)):bZ (pm.set (b+3) (.dict hU)) b t h ru m bR tw dp as hU tl aX:=by have ht:=R.ht;have hr:=R.hr;constructor<;>first|exact ht|exact hr|(rw[c_ R.iK];first|(rw[if_neg ()];first|exact R.iI|exact R.iR|exact R.iA|exact R.iT|exact R.iN|exact R.iL)|(rw[if_pos rfl]))
theorem bZ.Fv{as:List (D×D)}(R:bZ pm b t h ru m bR tw dp as kn tl aX)(Sd:List D):bZ (pm.set t (.list Sd)) b t h ru m bR tw dp as kn Sd aX:=by have ht:=R.ht;have hr:=R.hr;constructor<;>first|exact ht|exact hr|(rw[c_ R.iT];first|(rw[if_neg ()];first|exact R.iI|exact R.iR|exact R.iA|exact R.iK|exact R.iN|exact R.iL)|(rw[if_pos rfl]))
theorem bZ.UX{as:List (D×D)}(R:bZ pm b t h ru m bR tw dp as kn tl aX)(dp':Int):bZ (pm.set b (.inst 2 (fQ b t h ru m bR tw dp'))) b t h ru m bR tw dp' as kn tl aX:=by have ht:=R.ht;have hr:=R.hr;constructor<;>first|exact ht|exact hr|(rw[c_ R.iI];first|(rw[if_neg ()];first|exact R.iR|exact R.iA|exact R.iK|exact R.iT|exact R.iN|exact R.iL)|(rw[if_pos rfl]))
theorem bZ.UY{as:List (D×D)}(R:bZ pm b t h ru m bR tw dp as kn tl aX)(UZ:List D):bZ (pm.set (b+7) (.list UZ)) b t h ru m bR tw dp as kn tl UZ:=by have ht:=R.ht;have hr:=R.hr;constructor<;>first|exact ht|exact hr|(rw[c_ R.iL];first|(rw[if_neg ()];first|exact R.iI|exact R.iR|exact R.iA|exact R.iK|exact R.iT|exact R.iN)|(rw[if_pos rfl]))
theorem bZ.newT{as:List (D×D)}(R:bZ pm b t h ru m bR tw dp as kn tl aX)(Sd:List D):bZ ((pm++[MO.list Sd]).set b (.inst 2 (fQ b pm.length h ru m bR tw dp))) b pm.length h ru m bR tw dp as kn Sd aX:=by
 have hl:=R.lt;have hr:=R.hr;have lf:∀{i:Nat} {x:MO},pm[i]?=some x->(pm++[MO.list Sd])[i]?=some x:=λe=>by rw[mM (gf.mp e).1];exact e
 constructor<;>first|exact .inr ()|exact hr|(rw[c_ (lf R.iI)];first|(rw[if_neg ()];first|exact lf R.iR|exact lf R.iA|exact lf R.iK|exact lf R.iN|exact lf R.iL|(rw[yw (dA _)];simp))|(rw[if_pos rfl]))
end
structure de (b h ru:Nat) (m:Int) (bR:Bool) (tw:PV) (aX:List D) (aE:Int->Int->Bool) (mu:Int->Nat) (M:Nat) (pm:List MO) (t:Nat) (dp:Int) (tl:List gi) (kn:List (D×D)):Prop where
 R:bZ pm b t h ru m bR tw dp (cQ tl) kn (fk tl) aX
 K:qd aE kn
 nd:tl.Nodup
 rk:∀q∈tl,aE q.1 q.2=true\/M<=mu q.1+mu q.2
structure cZ (b h ru:Nat) (m:Int) (bR:Bool) (tw:PV) (aX:List D) (aE:Int->Int->Bool) (mu:Int->Nat) (M G:Nat) (pm:List MO) (dp:Int) (tl:List gi) (kn:List (D×D)) (r:Option (PV×List MO×List TO)) (v:Bool):Prop where
 ex:∃aA t' eZ hU,r=some (.d (.bool v),aA,[])/\de b h ru m bR tw aX aE mu M aA t' dp (tl++eZ) hU/\(tl=[]->eZ=[])/\(∀q∈eZ,aE q.1 q.2=true)/\eZ.length<=G/\hU.length<=kn.length+G/\bL b pm aA
theorem cZ.in{b h ru:Nat}{m:Int}{bR:Bool}{tw:PV}{aX:List D}{aE:Int->Int->Bool}{mu:Int->Nat}{M G:Nat}{pm:List MO}{dp:Int}{tl:List gi}{kn:List (D×D)}{r:Option (PV×List MO×List TO)}{v:Bool}{aA:List MO}{t':Nat}{eZ:List gi}{hU:List (D×D)}(h1:r=some (.d (.bool v),aA,[]))(h2:de b h ru m bR tw aX aE mu M aA t' dp (tl++eZ) hU)(h3:tl=[]->eZ=[])(h4:∀q∈eZ,aE q.1 q.2=true)(h5:eZ.length<=G)(h6:hU.length<=kn.length+G)(h7:bL b pm aA):cZ b h ru m bR tw aX aE mu M G pm dp tl kn r v:=
 ⟨aA,t',eZ,hU,h1,h2,h3,h4,h5,h6,h7⟩
theorem de.mono{b h ru:Nat}{m:Int}{bR:Bool}{tw:PV}{aX:List D}{aE:Int->Int->Bool}{mu:Int->Nat}{M M':Nat}{pm:List MO}{t:Nat}{dp:Int}{tl:List gi}{kn:List (D×D)}(x:de b h ru m bR tw aX aE mu M pm t dp tl kn)(hM:M'<=M):de b h ru m bR tw aX aE mu M' pm t dp tl kn:=
 ⟨x.R,x.K,x.nd,λq hq=>(x.rk q hq).imp id λz=>aW hM z⟩
theorem wK{aE:Int->Int->Bool}:∀{l:List gi} {kn:List (D×D)},qd aE kn->(∀q∈l,aE q.1 q.2=true)->qd aE (tI kn l)/\(tI kn l).length<=kn.length+l.length
 |[],kn,k,_=>⟨k,dA _⟩
 |p::r,kn,k,h=>by have hp:=h p (.head _);have k1:=k.put p;rw[hp]at k1;obtain⟨a,c⟩:=wK k1 λq hq=>h q (.tail _ hq);refine⟨a,aW c ?_⟩;have:=kC (eF p) (.bool true) kn;simp only[fw];omega
section
variable{b h ru:Nat}{m:Int}{bR:Bool}{tw:PV}{aX:List D}{aE:Int->Int->Bool}{mu:Int->Nat}{pm:List MO}{t:Nat}{dp:Int}{kn:List (D×D)}
theorem Fz{p:gi}{v:D}{kn:List (D×D)}(hk:∀x∈kn,∃q,x.1=eF q):∀x∈dput (eF p) v kn,∃q,x.1=eF q:=by
 induction kn with
 |nil=>intro x hx;have hx:x∈[(eF p,v)]:=hx;rw[jI]at hx;exact⟨p,by rw[hx]⟩
 |cons y ys ih=>
  intro x hx;have hx:x∈(if bc (eF p) y.1 then(y.1,v)::ys else y::dput (eF p) v ys):=hx;split at hx
  ·rcases dJ.mp hx with hx|hx
   ·rw[hx];exact hk y (.head _)
   ·exact hk x (.tail _ hx)
  ·rcases dJ.mp hx with hx|hx
   ·rw[hx];exact hk y (.head _)
   ·exact ih (λz hz=>hk z (.tail _ hz)) x hx
def FD:Ss:=#[.sY (.attr 'a' 19) 'c',.ite 'b' #[.ie (.attr 'a' 18) 'c' (.lit (.bool true))] .nil]
theorem IZ(n:Nat)(l:List gi):∀(pm:List MO) (kn:List (D×D)),pm[b]?=some (.inst 2 (fQ b t h ru m bR tw dp))->pm[b+2]?=some (.dict (cQ l))->pm[b+3]?=some (.dict kn)->(∀x∈kn,∃q,x.1=eF q)->l.length+kn.length<=900000->
  ∀EK:Option PV,∃aA x,dO (λls s=>execs (aH n) FD ls s) (kf 2) (fk l) [some (.ax b),some (.d (.bool true)),EK] ⟨pm,[]⟩=some (.next,[some (.ax b),some (.d (.bool true)),x],⟨aA,[]⟩)/\
   aA[b+2]?=some (.dict [])/\aA[b+3]?=some (.dict (tI kn l))/\(∀j,j≠b+2->j≠b+3->aA[j]?=pm[j]?)/\aA.length=pm.length:=by
 induction l with
 |nil=>
  intro pm kn h1 h2 h3 _ _ EK;exact⟨pm,EK,rfl,h2,h3,λ_ _ _=>rfl,rfl⟩
 |cons p r ih=>
  intro pm kn h1 h2 h3 hk hl EK;obtain⟨s,u⟩:=p;have d1:jm (D.tup [D.int s,D.int u]) (cQ ((s,u)::r))=true:=Dp (s,u) (uX _);have d2:fM (D.tup [D.int s,D.int u]) (cQ ((s,u)::r))=true:=by have:=uY (s,u) ((s,u)::r);rw[show D.tup [D.int s,D.int u]=eF (s,u)from rfl,this];simp
  have d3:mi (D.tup [D.int s,D.int u]) (cQ ((s,u)::r))=cQ r:=IY (s,u) r;have d4:(cQ ((s,u)::r)).length<=1000000:=by have:=hl;simp[cQ]at this⊢;omega
  have d5:jm (D.tup [D.int s,D.int u]) kn=true:=Dp (s,u) hk;have d6:kn.length<=1000000:=();have U0:r.length+(dput (eF (s,u)) (.bool true) kn).length<=900000:=by exact aW (eU (kC (eF (s,u)) (.bool true) kn) _) (aW (lM (uB r.length kn.length 1)) hl)
  have g1:(pm.set (b+2) (.dict (cQ r)))[b]?=some (.inst 2 (fQ b t h ru m bR tw dp)):=by rw[c_ h2,if_neg ()];exact h1
  have g3:(pm.set (b+2) (.dict (cQ r)))[b+3]?=some (.dict kn):=by rw[c_ h2,if_neg ()];exact h3
  have g2:(pm.set (b+2) (.dict (cQ r)))[b+2]?=some (.dict (cQ r)):=by rw[c_ h2,if_pos rfl]
  have k1:((pm.set (b+2) (.dict (cQ r))).set (b+3) (.dict (dput (eF (s,u)) (.bool true) kn)))[b]?=some (.inst 2 (fQ b t h ru m bR tw dp)):=by rw[c_ g3,if_neg ()];exact g1
  have k2:((pm.set (b+2) (.dict (cQ r))).set (b+3) (.dict (dput (eF (s,u)) (.bool true) kn)))[b+2]?=some (.dict (cQ r)):=by rw[c_ g3,if_neg ()];exact g2
  have k3:((pm.set (b+2) (.dict (cQ r))).set (b+3) (.dict (dput (eF (s,u)) (.bool true) kn)))[b+3]?=some (.dict (dput (eF (s,u)) (.bool true) kn)):=by rw[c_ g3,if_pos rfl]
  obtain⟨aA,x,e,e1,e2,e3,e4⟩:=ih _ _ k1 k2 k3 (Fz hk) U0 (some (.d (eF (s,u))));refine⟨aA,x,?_,e1,e2,λj j1 j2=>by rw[e3 j j1 j2,c_ g3,if_neg (gA j2),c_ h2,if_neg (gA j1)],by rw[e4];simp⟩;unfold fk at e⊢;rw[kg];have ex:execs (aH n) FD [some (.ax b),some (.d (.bool true)),some (.d (eF (s,u)))] ⟨pm,[]⟩=some (.next,[some (.ax b),some (.d (.bool true)),some (.d (eF (s,u)))],⟨(pm.set (b+2) (.dict (cQ r))).set (b+3) (.dict (dput (eF (s,u)) (.bool true) kn)),[]⟩):=by
   have k:fits kn=true:=cT d6
   dsimp! [h1,delD h2 d1 d2 (cT d4) d3,g1,Fu g3 d5 k rfl]
  exact fJ rfl ex e
theorem f29(n:Nat){tl:List gi}(R:bZ pm b t h ru m bR tw dp (cQ tl) kn (fk tl) aX)(K:qd aE kn)(ht:∀q∈tl,aE q.1 q.2=true)(hl:tl.length+kn.length<=900000):
  ∃aA,rn (n+1) 29 [.ax b,.d (.bool true)] pm []=some (.d .none,aA,[])/\bZ aA b pm.length h ru m bR tw dp [] (tI kn tl) [] aX/\bL b pm aA:=by
 have sR:=R.lt;have htt:=R.ht;have X9:t<pm.length:=(gf.mp R.iT).1;have gd:∀j,j≠t->(pm.set t .dead)[j]?=pm[j]?:=λj hj=>by rw[c_ R.iT,if_neg (gA hj)]
 obtain⟨fR,x,e,e1,e2,e3,e4⟩:=IZ (b:=b) n tl (pm.set t .dead) kn (by rw[gd b ()];exact R.iI) (by rw[gd (b+2) ()];exact R.iA) (by rw[gd (b+3) ()];exact R.iK) K.keys hl none;have hlen:fR.length=pm.length:=by rw[e4];simp
 have un:∀j,j≠b+2->j≠b+3->(fR.set t (.list (fk tl)))[j]?=pm[j]?:=λj j1 j2=>by
  rw[dz];by_cases hj:t=j
  ·subst hj;rw[if_pos rfl,if_pos (by rw[hlen];exact X9)];exact R.iT.symm
  ·rw[if_neg hj,e3 j j1 j2,gd j (gA hj)]
 have R2:bZ (fR.set t (.list (fk tl))) b t h ru m bR tw dp [] (tI kn tl) (fk tl) aX:=by
  have hr:=R.hr;refine⟨?_,?_,?_,?_,?_,?_,?_,htt,hr⟩
  ·rw[un b () ()];exact R.iI
  ·rw[un ru () ()];exact R.iR
  ·rw[bq ()];exact e1
  ·rw[bq ()];exact e2
  ·rw[un t () ()];exact R.iT
  ·rw[un (b+6) () ()];exact R.iN
  ·rw[un (b+7) () ()];exact R.iL
 have R3:=R2.newT [];have Se:(fR.set t (.list (fk tl))).length=pm.length:=by rw[gq,hlen]
 rw[Se]at R3;refine⟨_,?_,R3,?_⟩
 ·have lf:(fR.set t (.list (fk tl))++[MO.list []])[b]?=some (.inst 2 (fQ b t h ru m bR tw dp)):=by rw[mM (by rw[Se];omega)];exact R2.iI
  rw[<-Se]
  dsimp! [itP R.iT,e,R2.iI,lf]
 ·refine⟨by simp[hlen],λj hj=>?_⟩;rw[bq (),mM (by rw[Se];omega),un j () ()]
end
section
variable{b h ru:Nat}{m:Int}{bR:Bool}{tw:PV}{aX:List D}{aE:Int->Int->Bool}{mu:Int->Nat}{pm:List MO}{t:Nat}{dp:Int}{kn:List (D×D)}
def OS:E:= .cmp .gt (.bi .len (.attr 'a' 17)) (.sub 'b' 1.0)
def U1:Ss:=#[.sY (.attr 'a' 19) (.aR (.attr 'a' 17) 1 .nil)]
theorem I0{l:List gi}{p:gi}(h:(l++[p]).Nodup):p∉l/\l.Nodup:=by rw[List.nodup_append]at h;exact⟨λz=>h.2.2 _ z _ (.head _) rfl,h.1⟩
theorem U2(n:Nat){a:Int}{tl:List gi}(l:List gi):∀(k:Nat) (pm:List MO),bZ pm b t h ru m bR tw dp (cQ (tl++l.reverse)) kn (fk (tl++l.reverse)) aX->(tl++l.reverse).Nodup->(tl++l.reverse).length<=900000->l.length<k->
  ∃aA,jL (λls s=>test (aH n) OS ls s) (λls s=>execs (aH n) U1 ls s) k [some (.ax b),some (.d (.tup [.int a,.int tl.length]))] ⟨pm,[]⟩=some (.next,[some (.ax b),some (.d (.tup [.int a,.int tl.length]))],⟨aA,[]⟩)/\
   bZ aA b t h ru m bR tw dp (cQ tl) kn (fk tl) aX/\bL b pm aA:=by
 induction l with
 |nil=>
  intro k pm R nd hl hk;cases k with
  |zero=>exact absurd hk (Nat.not_lt_zero _)
  |succ k=>
  rw[List.reverse_nil,ej]at R hl;refine⟨pm,?_,R,.refl⟩;have e:test (aH n) OS [some (.ax b),some (.d (.tup [.int a,.int tl.length]))] ⟨pm,[]⟩=some (decide ((tl.length:Int)<(fk tl).length),⟨pm,[]⟩):=by
   have lq:fits (fk tl)=true:=cT (by unfold fk;rw[eT];omega)
   dsimp! [R.iT,↑lq]
  show ai _ (test _ _ _ _)=_;rw[e,show(fk tl).length=tl.length from eT ..,dU (Int.lt_irrefl _)];rfl
 |cons p l ihh=>
  intro k pm R nd hl hk;cases k with
  |zero=>exact absurd hk (Nat.not_lt_zero _)
  |succ k=>
  obtain⟨s,u⟩:=p;have er:tl++((s,u)::l).reverse=(tl++l.reverse)++[(s,u)]:=by rw[List.reverse_cons,eI]
  rw[er]at R nd hl;obtain⟨hn,nd'⟩:=I0 nd;have h1:(fk (tl++l.reverse++[(s,u)])).length=tl.length+l.length+1:=by simp[fk];omega
  have X_:tl.length+l.length+1<=900000:=by simp at hl;omega
  have e:test (aH n) OS [some (.ax b),some (.d (.tup [.int a,.int tl.length]))] ⟨pm,[]⟩=some (decide ((tl.length:Int)<(fk (tl++l.reverse++[(s,u)])).length),⟨pm,[]⟩):=by
   have lq:fits (fk (tl++l.reverse++[(s,u)]))=true:=cT ()
   dsimp! [R.iT,↑lq]
  rw[h1,ed ()]at e;have R1:=R.Fv (fk (tl++l.reverse));have R2:=R1.wz (cQ (tl++l.reverse));have el:fk (tl++l.reverse++[(s,u)])=fk (tl++l.reverse)++[D.tup [D.int s,D.int u]]:=by simp[fk,eF]
  have d1:jm (D.tup [D.int s,D.int u]) (cQ (tl++l.reverse++[(s,u)]))=true:=Dp (s,u) (uX _);have d2:fM (D.tup [D.int s,D.int u]) (cQ (tl++l.reverse++[(s,u)]))=true:=by rw[show D.tup [D.int s,D.int u]=eF (s,u)from rfl,uY];simp
  have d3:mi (D.tup [D.int s,D.int u]) (cQ (tl++l.reverse++[(s,u)]))=cQ (tl++l.reverse):=Fy (s,u) _ hn;have d4:(cQ (tl++l.reverse++[(s,u)])).length<=1000000:=by simp[cQ];omega
  have ln:(fk (tl++l.reverse)).length+1<=1000000:=by simp[fk];omega
  have iT:=R.iT;rw[el]at iT;have eb:execs (aH n) U1 [some (.ax b),some (.d (.tup [.int a,.int tl.length]))] ⟨pm,[]⟩=some (.next,[some (.ax b),some (.d (.tup [.int a,.int tl.length]))],⟨(pm.set t (.list (fk (tl++l.reverse)))).set (b+2) (.dict (cQ (tl++l.reverse))),[]⟩):=by dsimp! [iT,popP iT (cT (by rw[dS];exact ln)),delD R1.iA d1 d2 (cT d4) d3]
  obtain⟨aA,e',R',bl⟩:=ihh k _ R2 nd' (by simp at X_⊢;omega) (by simp at hk;omega);refine⟨aA,?_,R',((bL.set (by have:=R.ht;omega)).trans (bL.set ())).trans bl⟩;show ai _ (test _ _ _ _)=_;rw[e];show ai _ (execs _ _ _ _)=_;rw[eb];exact e'
theorem f25(n:Nat){tl eZ:List gi}(R:bZ pm b t h ru m bR tw dp (cQ (tl++eZ)) kn (fk (tl++eZ)) aX)(nd:(tl++eZ).Nodup)(hl:(tl++eZ).length<=90000)(l1:aX.length<=900000):
  ∃aA,rn (n+1) 25 [.ax b,.d (.tup [.int aX.length,.int tl.length])] pm []=some (.d .none,aA,[])/\bZ aA b t h ru m bR tw dp (cQ tl) kn (fk tl) aX/\bL b pm aA:=by
 have R1:=R.UY aX;have LA:eZ.length<=90000:=by simp at hl;omega
 obtain⟨aA,e,R',bl⟩:=U2 (a:=aX.length) (tl:=tl) n eZ.reverse 100000 (pm.set (b+7) (.list aX)) (by rw[List.reverse_reverse];exact R1) (by rw[List.reverse_reverse];exact nd) (by rw[List.reverse_reverse];omega) (by simp;omega);refine⟨aA,?_,R',(bL.set ()).trans bl⟩
 dsimp! [R.iN,dtP R.iL (sT _) (OQ ()) (cT ()) (List.take_length ..),e]
end
def gOf(m:Int):Nat:=if m=3 then 43 else 38
theorem gOfC{m:Int}(hm:m=1\/m=3):∃c,(m==3)=c/\gOf m=(match c with|true=>43|false=>38)/\(!(m==4))=true:=by rcases hm with rfl|rfl<;>exact⟨_,rfl,rfl,rfl⟩
theorem I6{l:List gi}{p:gi}(nd:l.Nodup)(h:p∉l):(l++[p]).Nodup:=by rw[List.nodup_append];exact⟨nd,by simp,λa h1 c h2=>by rw[jI]at h2;subst h2;exactλe=>h (e▸h1)⟩
section
variable{b h ru:Nat}{m:Int}{bR:Bool}{tw:PV}{aX:List D}{aE:Int->Int->Bool}{mu:Int->Nat}{pm:List MO}{t:Nat}{dp:Int}{kn:List (D×D)}{tl:List gi}
theorem f28(n:Nat){s u:Int}{G:Nat}{W:List MO->Prop}(hW:∀pm aA,bL b pm aA->W pm->W aA)(hm:m=1\/m=3)(l1:aX.length<=900000)
  (hin:∀pm t dp tl kn,W pm->de b h ru m bR tw aX aE mu (mu s+mu u) pm t dp tl kn->tl≠[]->tl.length+G<=80000->kn.length+G<=80000->dp+mu s+mu u<=51->cZ b h ru m bR tw aX aE mu (mu s+mu u) G pm dp tl kn (rn (n+1) (gOf m) [.ax b,.d (.int s),.d (.int u)] pm []) (aE s u))
  (w:W pm) (H:de b h ru m bR tw aX aE mu (mu s+mu u+1) pm t dp tl kn) (b1:tl.length+(2*G+2)<=80000) (eN:kn.length+(2*G+2)<=80000) (b3:dp+mu s+mu u<=50):
  cZ b h ru m bR tw aX aE mu (mu s+mu u+1) (2*G+2) pm dp tl kn (rn (n+2) 28 [.ax b,.d (.int s),.d (.int u)] pm []) (aE s u):=by
 have R:=H.R;have K:=H.K;have nd:=H.nd;have rk:=H.rk;clear H;have d1:jm (eF (s,u)) kn=true:=Dp (s,u) K.keys;have d2:jm (eF (s,u)) (cQ tl)=true:=Dp (s,u) (uX _);cases hk:fM (eF (s,u)) kn with
 |true=>exact .in (by dsimp! [R.iK,↑d1,hk,K.get (s,u) hk]) (by rw[ej];exact⟨R,K,nd,rk⟩) (λ_=>rfl) (λ_ h=>nomatch h) (eJ _) () .refl
 |false=>
 have hA:=uY (s,u) tl;by_cases ha:(s,u)∈tl
 ·have Dq:aE s u=true:=(rk _ ha).resolve_right λ(z:mu s+mu u+1<=mu s+mu u)=>();rw[jH.mpr ha]at hA;rw[Dq];exact .in (by dsimp! [R.iK,↑d1,hk,R.iA,↑d2,hA]) (by rw[ej];exact⟨R,K,nd,rk⟩) (λ_=>rfl) (λ_ h=>nomatch h) (eJ _) () .refl
 rw[Bool.eq_false_iff.mpr λz=>ha (jH.mp z)]at hA;have hG:G+1<=2*G+2:=hZ (Nat.le_mul_of_pos_left G ∅) ∅;have X':G<=2*G+2:=Nat.le_of_succ_le hG;have h6:=dU (show¬((60:Int)<=dp)by omega);have U3:(fk tl).length=tl.length:=eT _;have OT:=f21 n R () (by rw[U3];omega);rw[U3]at OT;have R1:=R.wz (cQ (tl++[(s,u)]));have R2:=R1.Fv (fk (tl++[(s,u)]));have e6:=Fu (σ:=⟨pm,[]⟩) (v:= .int 1) R.iA d2 (cT (by simp[cQ];omega)) (Fx (s,u) tl ha);have e7:=Dn (σ:=⟨pm.set (b+2) (.dict (cQ (tl++[(s,u)]))),[]⟩) (d:=eF (s,u)) R1.iT (cT (by rw[U3];omega)) (uD (f:=eF) (l₁:=tl) (l₂:=[(s,u)])).symm;have OU:bL b pm ((pm.set (b+2) (.dict (cQ (tl++[(s,u)])))).set t (.list (fk (tl++[(s,u)])))):=(bL.set ()).trans (bL.set (by have:=R.ht;omega));have R3:=R2.UX (dp+1);have bl3:=OU.trans (bL.set (x:= .inst 2 (fQ b t h ru m bR tw (dp+1))) (dA _));have nd3:(tl++[(s,u)]).Nodup:=I6 nd ha;have rk3:∀q∈tl++[(s,u)],aE q.1 q.2=true\/mu s+mu u<=mu q.1+mu q.2:=λq hq=>(pV.mp hq).elim (λh=>(rk q h).imp id λz=>Nat.le_of_succ_le z) λh=>by rw[jI]at h;subst h;exact .inr (dA _)
 obtain⟨rg,t4,eZ,U4,r4,H4,_,a4,g4,k4,bl4⟩:=(hin _ t (dp+1) (tl++[(s,u)]) kn (hW _ _ bl3 w) ⟨R3,K,nd3,rk3⟩ (by simp) (by rw[dS];exact od1 (aW (eU hG _) b1) (dA _)) (aW (eU X' _) eN) ()).ex;have hk4:U4.length<=80000:=aW k4 (aW (eU X' _) eN);have R5:=H4.R.UX dp;have bl5:=(bl3.trans bl4).trans (bL.set (x:= .inst 2 (fQ b t4 h ru m bR tw dp)) (dA _));obtain⟨c,m3,hg,m4⟩:=gOfC hm;rw[hg]at r4;have ar:arith .sub (dp+1) 1=some dp:=by show some (dp+1-1)=_;rw[Int.add_sub_cancel]
 have K4:=H4.K;have nd4:=H4.nd;rw[eI]at R5 nd4;have hlen:(tl++([(s,u)]++eZ)).length<=80000:=by rw[dS];exact aW (eU (aW (oh g4) hG) _) b1
 cases Dq:aE s u with
 |false=>
  rw[Dq]at r4;obtain⟨LB,r6,R6,bl6⟩:=f25 n R5 nd4 () l1;have K7:=K4.put (s,u);rw[show aE (s,u).1 (s,u).2=false from Dq]at K7;have R7:=R6.setK (dput (eF (s,u)) (.bool false) U4);refine .in ?_ (by rw[ej];exact⟨R7,K7,nd,rk⟩) (λ_=>rfl) (λ_ h=>nomatch h) (eJ _) (by have:=kC (eF (s,u)) (.bool false) U4;omega) ((bl5.trans bl6).trans (bL.set ()));have e9:=Fu (σ:=⟨LB,[]⟩) (k:=eF (s,u)) (v:= .bool false) R6.iK (Dp (s,u) K4.keys) (cT ()) rfl;cases hz:((tl.length:Int)==0)<;>cases c<;>dsimp! [m3,m4,R.iK,↑d1,hk,R.iA,↑d2,hA,h6,OT,e6,R1.iI,R1.iT,e7,R2.iI,R3.iI,r4,<-ar,H4.R.iI,r6,hz,R6.iI,e9]
 |true=>
  rw[Dq]at r4;have all:∀q∈[(s,u)]++eZ,aE q.1 q.2=true:=λq hq=>(pV.mp hq).elim (λh=>by rw[jI]at h;subst h;exact Dq) (a4 q);by_cases h0:tl=[]
  ·rw[h0,List.nil_append]at R5;rw[h0]at OT;obtain⟨LB,r6,R6,bl6⟩:=f29 n R5 K4 all (aW (hZ (oh (aW g4 (aW X' (aW (EV _ _) b1)))) hk4) ∅);obtain⟨k6,g6⟩:=wK K4 all;rw[h0];refine .in ?_ ⟨R6,k6,sV,λq h=>nomatch h⟩ (λ_=>rfl) (λ_ h=>nomatch h) (eJ _) (by have:([(s,u)]++eZ).length=eZ.length+1:=fw;omega) (bl5.trans bl6);have f5:fits aX=true:=cT ();rw[show true=((aX.length:Int)==aX.length)from(beq_self_eq_true _).symm]at r6;cases c<;>dsimp! [m3,m4,R.iK,↑d1,hk,R.iA,↑d2,hA,h6,OT,e6,R1.iI,R1.iT,e7,R2.iI,R3.iI,r4,<-ar,H4.R.iI,R5.iI,R5.iN,R5.iL,↑f5,r6]
  ·refine .in (eZ:=[(s,u)]++eZ) ?_ ⟨R5,K4,nd4,λq hq=>(pV.mp hq).elim (rk q) λh=> .inl (all q h)⟩ (λz=>absurd z h0) all (aW (oh g4) hG) (aW k4 (eU X' _)) bl5;have hz:((tl.length:Int)==0)=false:=by simpa using h0
   cases c<;>dsimp! [m3,m4,R.iK,↑d1,hk,R.iA,↑d2,hA,h6,OT,e6,R1.iI,R1.iT,e7,R2.iI,R3.iI,r4,<-ar,H4.R.iI,hz]
end
set_option genInjectivity true in
inductive Ty where
 |sL (s:List Nat)|one|kw (s:List Nat)|idx (o p:Int)|un (ae:List Int)|par (p:Int)|ko (x:Int)
def Ty.row:Ty->List D
 | .sL s=>[.int 3,.str s,.int 0]
 | .one=>[.int 4,.int 1,.int 0]
 | .kw s=>[.int 1,.str s]
 | .idx o p=>[.int 15,.int o,.int p]
 | .un ae=>[.int 6,.tup (ae.map .int)]
 | .par p=>[.int 10,.int p]
 | .ko x=>[.int 14,.int x]
def Ty.kind:Ty->Int
 | .sL _=>3| .one=>4| .kw _=>1| .idx _ _=>15| .un _=>6| .par _=>10| .ko _=>14
def Ty.df:Ty->Bool
 | .idx _ _=>true| .par _=>true| .ko _=>true|_=>false
def Ty.fX:Ty->Bool
 | .un _=>true|_=>false
structure aD (aa:List D) (t:Int) (T:Ty):Prop where
 nn:0<=t
 lt:t<900000
 at_:aa[t.toNat]?=some (.tup T.row)
structure Wd (aa ay:List D) (h:Nat) (pm:List MO):Prop where
 i0:pm[0]?=some (.inst 0 m8)
 i1:pm[1]?=some (.list aa)
 i4:pm[4]?=some (.list ay)
 ih:pm[h]?=some (.inst 3 bK)
theorem Wd.below{aa ay:List D}{h b:Nat}{pm aA:List MO}(w:Wd aa ay h pm)(hb:9<=b)(hh:h<b)(bl:bL b pm aA):Wd aa ay h aA:=
 ⟨by rw[bl.2 0 ()];exact w.i0,by rw[bl.2 1 ()];exact w.i1,by rw[bl.2 4 ()];exact w.i4,by rw[bl.2 h hh];exact w.ih⟩
theorem aD.s1{aa:List D}{t:Int}{T:Ty}(x:aD aa t T):(-4611686018427387904:Int)<t:=by have:=x.nn;omega
theorem aD.s2{aa:List D}{t:Int}{T:Ty}(x:aD aa t T):t<(4611686018427387904:Int):=by have:=x.lt;omega
theorem aD.sm{aa:List D}{t:Int}{T:Ty}(x:aD aa t T):small t=true:=uS x.s1 x.s2
theorem aD.n0{aa:List D}{t:Int}{T:Ty}(x:aD aa t T):decide (0<=t)=true:=ed x.nn
theorem aD.get{aa:List D}{t:Int}{T:Ty}{pm:List MO}{tm:List TO}(x:aD aa t T)(h1:pm[1]?=some (.list aa)):PS.wA ⟨pm,tm⟩ (.ax 1) (.d (.int t))=some (.d (.tup T.row)):=by show ai (Dj (.int t)) (ai H0 pm[1]?)=_;rw[h1];show dy (ai s8 aa[t.toNat]?) (small t&&decide (0<=t))=_;rw[x.at_,uS x.s1 x.s2,ed x.nn];rfl
theorem m9{σ:PS}(T:Ty):σ.wA (.d (.tup T.row)) (.d (.int 0))=some (.d (.int T.kind)):=by cases T<;>rfl
abbrev OV:E:= .attr (.attr (.attr 'a' 22) 23) 0
theorem z7{X:Cx}{ls:Ls}{pm:List MO}{tm:List TO}{b h:Nat}{fs}(h0:ls[0]?= ~~~(.ax b))(I:pm[b]?=some (.inst 2 fs))(hf:p6 22 fs=some (.ax h))(ih:pm[h]?=some (.inst 3 bK))(i0:pm[0]?=some (.inst 0 m8)):eval X OV ls ⟨pm,tm⟩=some (.ax 1,⟨pm,tm⟩):=
 wF (wF (wF (ak h0) I hf) ih rfl) i0 rfl
section
variable{aa ay:List D}{h:Nat}{pm:List MO}{t:Int}{T:Ty}{n:Nat}
theorem f63(a:Nat)(v:D):rn (n+1) 63 [.ax a,.d v] pm []=some (.d v,pm,[]):=by dsimp! [rfl]
def yR(t:Int):Ty->List D
 | .un ae=>ae.map .int
 |_=>[.int t]
theorem f6(w:Wd aa ay h pm)(x:aD aa t T)(h2:t≠2)(hl:∀ae,T= .un ae->ae.length<=1000000):rn (n+1) 6 [.ax 0,.d (.int t)] pm []=some (.d (.tup (yR t T)),pm,[]):=by
 have U5:(t==2)=false:=by simpa using h2
 have f:fits (yR t T)=true:=cT (by cases T<;>first|exact g5 rfl|(unfold yR;rw[eT];exact hl _ rfl));cases T<;>dsimp! [U5,↑f]
theorem f14(w:Wd aa ay h pm)(x:aD aa t T):rn (n+1) 14 [.ax 0,.d (.int t)] pm []=some (.d (.bool (match T with| .sL _=>true| .one=>true|_=>false)),pm,[]):=by cases T<;>dsimp! [rfl]
theorem f15(w:Wd aa ay h pm)(x:aD aa t T):rn (n+1) 15 [.ax 0,.d (.int t)] pm []=some (.d (.bool false),pm,[]):=by cases T<;>dsimp! [rfl]
theorem f16(w:Wd aa ay h pm)(x:aD aa t T):rn (n+2) 16 [.ax 0,.d (.int t)] pm []=some (.d (.int t),pm,[]):=by dsimp! [f15 w x]
theorem Yb(w:Wd aa ay h pm)(x:aD aa t T):rn (n+3) 26 [.ax h,.d (.int t)] pm []=some (.d (.int t),pm,[]):=by have e:=f14 (n:=n+1) w x;cases T<;>dsimp! [e,f16 w x,f63 _ _]
def Ty.t7:Ty->Int
 | .sL _=>6| .one=>7|_=>-1
theorem f7(T:Ty):rn (n+1) 7 [.d (.tup T.row)] pm []=some (.d (.int T.t7),pm,[]):=by cases T<;>dsimp! [rfl]
theorem f35(T:Ty):rn (n+2) 35 [.d (.tup T.row)] pm []=some (.d (.bool false),pm,[]):=by cases T<;>dsimp! [rfl]
def Yc(k:Int):Bool:=[D.int 10,D.int 14,D.int 15,D.int 16,D.int 17,D.int 18,D.int 19].any λy=>bc y (.int k)
theorem uZ(T:Ty):Yc T.kind=T.df:=by cases T<;>rfl
theorem f39(S T:Ty)(h:S.df=true\/T.df=true):rn (n+1) 39 [.d (.int S.kind),.d (.int T.kind)] pm []=some (.d (.int 2),pm,[]):=by
 have h7:(S.kind==7)=false:=by cases S<;>rfl
 have h7':(T.kind==7)=false:=by cases T<;>rfl
 have hS:=uZ S;have hT:=uZ T;unfold Yc at hS hT;cases h1:S.df<;>cases h2:T.df<;>rw[h1]at hS<;>rw[h2]at hT<;>first|(rw[h1,h2]at h;simp at h;done)|dsimp! [h7,h7',hS,hT]
end
def Ty.val:Ty->Bool
 | .sL _=>true| .one=>true| .kw _=>true|_=>false
def z8(s:Int):Prop:=s=1\/s=5\/16<=s
def pE(t:Int):Prop:=t=5\/16<=t
section
variable{aa ay:List D}{b t h ru:Nat}{m:Int}{bR:Bool}{tw:PV}{dp:Int}{as kn:List (D×D)}{tl aX:List D}{pm:List MO}{s u:Int}{S U:Ty}{n:Nat}
def opK(k:Int):Bool:=[D.int 6,D.int 7,D.int 10,D.int 14,D.int 15,D.int 16,D.int 17,D.int 18,D.int 19].any λy=>bc y (.int k)
theorem FF(T:Ty):opK T.kind=(T.df||T.fX):=by cases T<;>rfl
def vaK(k:Int):Bool:=[D.int 1,D.int 2,D.int 3,D.int 4,D.int 5].any λy=>bc y (.int k)
theorem u0(T:Ty):vaK T.kind=T.val:=by cases T<;>rfl
theorem m_(T:Ty):T.row[0]?=some (.int T.kind):=by cases T<;>rfl
theorem f34(w:Wd aa ay h pm)(R:bZ pm b t h ru m bR tw dp as kn tl aX)(x:aD aa u U)(hu:U.df=true):rn (n+1) 34 [.ax b,.d (.int u)] pm []=some (.d (.int (-1)),pm,[]):=by
 have hK:=uZ U;unfold Yc at hK;rw[hu]at hK
 dsimp! [m_ _,hK]
theorem f33(w:Wd aa ay h pm)(R:bZ pm b t h ru m bR tw dp as kn tl aX)(hm:m=1\/m=3)(x:aD aa u U)(hs:z8 s)(hu:pE u)(h1:s=1->U.df=true):rn (n+2) 33 [.ax b,.d (.int s),.d (.int u)] pm []=some (.d (.int (-1)),pm,[]):=by
 have a1:(u==0)=false:=by unfold pE at hu;simp;omega
 have a2:(u==13)=false:=by unfold pE at hu;simp;omega
 have a3:(s==2)=false:=by unfold z8 at hs;simp;omega
 have a4:(s==13)=false:=by unfold z8 at hs;simp;omega
 have a5:(s==0)=false:=by unfold z8 at hs;simp;omega
 have a6:(u==1)=false:=by unfold pE at hu;simp;omega
 have a7:(u==2)=false:=by unfold pE at hu;simp;omega
 by_cases e:s=1
 ·have e':(s==1)=true:=by simpa using e
  dsimp! [a1,a2,a3,a4,a5,a6,a7,e',f34 (n:=n) w R x (h1 e)]
 ·have e':(s==1)=false:=by simpa using e
  dsimp! [a1,a2,a3,a4,a5,a6,a7,e']
theorem f36(w:Wd aa ay h pm)(R:bZ pm b t h ru m bR tw dp as kn tl aX)(hm:m=1\/m=3)(y:aD aa s S)(x:aD aa u U)(hs:z8 s)(hu:pE u)(v1:S.val=true)(v2:U.val=true):rn (n+4) 36 [.ax b,.d (.int s),.d (.int u)] pm []=some (.d (.int 0),pm,[]):=by
 have a1:(s==4)=false:=by unfold z8 at hs;simp;omega
 have a2:(6==u)=false:=by unfold pE at hu;simp;omega
 have a3:(7==u)=false:=by unfold pE at hu;simp;omega
 have a4:(-1==u)=false:=by unfold pE at hu;simp;omega
 have e7:=λT=>@f7 pm (n+2) T;have e35:=λT=>@f35 pm n T;have k5:(S.kind==5)=false:=by cases S<;>rfl
 have m4:(m==4)=false:=by rcases hm with rfl|rfl<;>rfl
 have m2:(m==2)=false:=by rcases hm with rfl|rfl<;>rfl
 have e37:rn (n+3) 37 [.ax b,.d (.int s),.d (.tup S.row),.d (.tup U.row)] pm []=some (.d (.int 0),pm,[]):=by dsimp! [m4,e35 _]
 cases S<;>first|(cases v1;done)|dsimp! [m_ _,m2,m4,a1,a2,a3,a4,e7 _,e37]
theorem f32(w:Wd aa ay h pm)(R:bZ pm b t h ru m bR tw dp as kn tl aX)(hm:m=1\/m=3)(y:aD aa s S)(x:aD aa u U)(hs:z8 s)(hu:pE u)(h1:s=1->U.df=true):
  rn (n+5) 32 [.ax b,.d (.int s),.d (.int u)] pm []=some (.d (.int (if (S.df||S.fX||U.df||U.fX)then-1 else 0)),pm,[]):=by
 have a1:(u==10)=false:=by unfold pE at hu;simp;omega
 have e33:=f33 (n:=n+2) w R hm x hs hu h1;have oS:=FF S;have oU:=FF U;unfold opK at oS oU;have vS:=u0 S;have vU:=u0 U;unfold vaK at vS vU;cases c1:(S.df||S.fX)
 ·cases c2:(U.df||U.fX)
  ·have v1:S.val=true:=by cases S<;>first|rfl|cases c1
   have v2:U.val=true:=by cases U<;>first|rfl|cases c2
   have e36:=f36 (n:=n) w R hm y x hs hu v1 v2;rw[c1]at oS;rw[c2]at oU;rw[v1]at vS;rw[v2]at vU;rw[if_neg (by rw[Bool.or_assoc,c2]<;>simp)]
   dsimp! [m_ _,a1,e33,e36,oS,oU,vS,vU]
  ·rw[c1]at oS;rw[c2]at oU;rw[if_pos (by rw[Bool.or_assoc,c2]<;>simp)]
   dsimp! [m_ _,a1,e33,oS,oU]
 ·rw[c1]at oS;rw[if_pos (by simp)]
  dsimp! [m_ _,a1,e33,oS]
end
theorem cZ.up{b h ru:Nat}{m:Int}{bR:Bool}{tw:PV}{aX:List D}{aE:Int->Int->Bool}{mu:Int->Nat}{M M' G G':Nat}{pm:List MO}{t:Nat}{dp:Int}{tl:List gi}{kn:List (D×D)}{r:Option (PV×List MO×List TO)}{v:Bool}
  (x:cZ b h ru m bR tw aX aE mu M' G pm dp tl kn r v) (y:de b h ru m bR tw aX aE mu M pm t dp tl kn) (hG:G<=G'):cZ b h ru m bR tw aX aE mu M G' pm dp tl kn r v:=by
 obtain⟨aA,t',eZ,hU,e,⟨R,K,nd,rk⟩,a1,a2,a3,a4,a5⟩:=x.ex;refine⟨aA,t',eZ,hU,e,⟨R,K,nd,λq hq=>?_⟩,a1,a2,(),(),a5⟩;rcases pV.mp hq with h|h
 ·exact y.rk q h
 ·exact .inl (a2 q h)
def U6(ay:List D)(dq:Int->Int->Prop)(aE:Int->Int->Bool)(mu:Int->Nat)(s t p:Int)(par:Bool):Prop:=
 ∃b0:Int,0<=p/\p<900000/\ay[p.toNat]?=some (.int b0)/\((if b0<0\/b0=0 then 1 else b0)=s->par=false)/\
  ((if b0<0\/b0=0 then 1 else b0)≠s->dq (if b0<0\/b0=0 then 1 else b0) t/\mu (if b0<0\/b0=0 then 1 else b0)<mu s/\par=aE (if b0<0\/b0=0 then 1 else b0) t)
def OW(ay:List D)(dq:Int->Int->Prop)(aE:Int->Int->Bool)(mu:Int->Nat)(s t:Int)(S:Ty)(par:Bool):Prop:=match S with
 | .par p=>U6 ay dq aE mu s t p par
 |_=>par=false
inductive Step (ay:List D) (dq:Int->Int->Prop) (aE:Int->Int->Bool) (mu:Int->Nat) (s t:Int):Ty->Ty->Prop
 |same {S T:Ty} (e:s=t) (a:aE s t=true):Step ay dq aE mu s t S T
 |un {ae:List Int} {T:Ty} (ne:s≠t) (l:ae.length<=4) (d:∀x∈ae,dq x t/\mu x<mu s) (a:aE s t=ae.all λx=>aE x t):Step ay dq aE mu s t (.un ae) T
 |to {S:Ty} {ae:List Int} {par:Bool} (ne:s≠t) (nu:S.fX=false) (l:ae.length<=4) (d:∀x∈ae,dq s x/\mu x<mu t) (p:OW ay dq aE mu s t S par) (a:aE s t=(ae.contains s||ae.any (λx=>aE s x)||par)):Step ay dq aE mu s t S (.un ae)
 |df {S T:Ty} {par:Bool} (ne:s≠t) (nu:S.fX=false) (nt:T.fX=false) (o:S.df=true\/T.df=true) (p:OW ay dq aE mu s t S par) (a:aE s t=par):Step ay dq aE mu s t S T
 |val {S T:Ty} (ne:s≠t) (v:S.val=true) (v':T.val=true) (a:aE s t=false):Step ay dq aE mu s t S T
structure EL (aa ay:List D) (dq:Int->Int->Prop) (aE:Int->Int->Bool) (mu:Int->Nat) (s t:Int):Prop where
 ex:∃S T,aD aa s S/\aD aa t T/\z8 s/\pE t/\(s=1->T.df=true)/\Step ay dq aE mu s t S T
def GG:Nat->Nat
 |0=>0
 |M+1=>10*GG M+2
theorem z9:∀{a c:Nat},a<=c->GG a<=GG c
 |0,_,_=>eJ _
 |a+1,0,h=>absurd h ()
 |a+1,c+1,h=>by have:=z9 (Nat.le_of_succ_le_succ h);show 10*GG a+2<=10*GG c+2;omega
def kE(aa ay:List D)(b h ru:Nat)(bR:Bool)(tw:PV)(aX:List D)(dq:Int->Int->Prop)(aE:Int->Int->Bool)(mu:Int->Nat)(M:Nat)(f:Nat)(sp:Spec):Prop:=
 ∀s t,dq s t->mu s+mu t<M->∀pm tt dp tl kn,Wd aa ay h pm->de b h ru 1 bR tw aX aE mu (mu s+mu t+1) pm tt dp tl kn->tl.length+GG M<=80000->kn.length+GG M<=80000->dp+mu s+mu t<=50->
  cZ b h ru 1 bR tw aX aE mu (mu s+mu t+1) (GG M) pm dp tl kn (sp [.ax b,.d (.int s),.d (.int t)] pm []) (aE s t)
section
variable{aa ay:List D}{b h ru:Nat}{bR:Bool}{tw:PV}{aX:List D}{dq:Int->Int->Prop}{aE:Int->Int->Bool}{mu:Int->Nat}{M:Nat}{n:Nat}
theorem LC(H:kE aa ay b h ru bR tw aX dq aE mu M 27 (rn n 27)):kE aa ay b h ru bR tw aX dq aE mu M 18 (rn (n+1) 18):=by
 intro s t hq hr pm tt dp tl kn w R b1 eN b3;obtain⟨aA,t',eZ,hU,e,x⟩:=(H s t hq hr pm tt dp tl kn w R b1 eN b3).ex;refine⟨aA,t',eZ,hU,?_,x⟩
 dsimp! [e]
theorem pr71(H:kE aa ay b h ru bR tw aX dq aE mu M 18 (rn (n+1) 18))(hb:9<=b)(hh:h<b){s t:Int}{S:Ty}{par:Bool}{pm:List MO}{tt:Nat}{dp:Int}{tl:List gi}{kn:List (D×D)}{r:Nat}(hr:mu s+mu t<=M)(OX:mu s+mu t<=r)(y:aD aa s S)(P:OW ay dq aE mu s t S par)(w:Wd aa ay h pm)
  (R:de b h ru 1 bR tw aX aE mu r pm tt dp tl kn) (b1:tl.length+GG M<=80000) (eN:kn.length+GG M<=80000) (b3:dp+mu s+mu t<=51):
  cZ b h ru 1 bR tw aX aE mu r (GG M) pm dp tl kn (rn (n+2) 71 [.ax b,.d (.int s),.d (.int t)] pm []) par:=by
 have I:=R.R.iI;cases S with
 |par p=>
  obtain⟨b0,p0,p1,p2,q1,q2⟩:=P;have e46:rn (n+1) 46 [.ax 0,.d (.int p)] pm []=some (.d (.int (if b0<0\/b0=0 then 1 else b0)),pm,[]):=by
   have sp:=uS (i:=p) () ();have np:=ed p0;by_cases h1:b0<0
   ·rw[if_pos (.inl h1)]
    dsimp! [w.i4,↑sp,↑np,p2,ed h1]
   ·by_cases h2:b0=0
    ·rw[if_pos (.inr h2)]
     dsimp! [w.i4,↑sp,↑np,p2,dU h1,(fg.mpr h2:(b0==0)=true)]
    ·rw[if_neg (λh=>h.elim h1 h2)]
     dsimp! [w.i4,↑sp,↑np,p2,dU h1,(beq_eq_false_iff_ne.mpr h2:(b0==0)=false)]
  generalize (if b0<0\/b0=0 then 1 else b0:Int)=bd at*
  by_cases e:bd=s
  ·have:=q1 e;subst this;have e':(bd==s)=true:=by simpa using e
   refine⟨pm,tt,[],kn,?_,by rw[ej];exact R,λ_=>rfl,λ_ h=>(nomatch h),eJ _,(),.refl⟩;rw[<-kB e']
   dsimp! [e46,kB e']
  ·obtain⟨d1,d2,d3⟩:=q2 e;subst d3;have e':(bd==s)=false:=by simpa using e
   have R':=R.mono (M':=mu bd+mu t+1) ();obtain⟨aA,t',eZ,hU,r',x⟩:=((H bd t d1 () pm tt dp tl kn w R' b1 eN ()).up R (dA _)).ex;refine⟨aA,t',eZ,hU,?_,x⟩
   dsimp! [e46,m5 e',r']
 |_=>
  cases P;refine⟨pm,tt,[],kn,?_,by rw[ej];exact R,λ_=>rfl,λ_ h=>(nomatch h),eJ _,(),.refl⟩
  dsimp! [rfl]
theorem U7(H:kE aa ay b h ru bR tw aX dq aE mu M 18 (rn (n+1) 18))(hb:9<=b)(hh:h<b){s t:Int}{S:Ty}{par:Bool}{pm:List MO}{tt:Nat}{dp:Int}{tl:List gi}{kn:List (D×D)}{r:Nat}(hr:mu s+mu t<=M)(OX:mu s+mu t<=r)(y:aD aa s S)(P:OW ay dq aE mu s t S par)(w:Wd aa ay h pm)
  (R:de b h ru 1 bR tw aX aE mu r pm tt dp tl kn) (b1:tl.length+GG M<=80000) (eN:kn.length+GG M<=80000) (b3:dp+mu s+mu t<=51):
  cZ b h ru 1 bR tw aX aE mu r (GG M) pm dp tl kn (rn (n+4) 22 [.ax b,.d (.int 2),.d (.int s),.d (.int t)] pm []) par:=by
 obtain⟨aA,t',eZ,hU,e,x⟩:=(pr71 H hb hh hr OX y P w R b1 eN b3).ex;have e70:rn (n+3) 70 [.d (.cin 4),.ax b,.d (.int s),.d (.int t)] pm []=some (.d (.bool par),aA,[]):=by dsimp! [R.R.iI,e]
 refine⟨aA,t',eZ,hU,?_,x⟩
 dsimp! [R.R.iI,R.R.iR,getP R.R.iR rfl rfl,e70]
end
section
variable{aa ay:List D}{b h ru:Nat}{bR:Bool}{tw:PV}{aX:List D}{dq:Int->Int->Prop}{aE:Int->Int->Bool}{mu:Int->Nat}{M:Nat}{n:Nat}
def b40:Ss:=#[.ite (.aR 'a' 4 #['d','c']) #[.ite (.cmp .eq (.attr 'a' 21) (.glob 21)) #[.bad] .nil] #[.ite (.cmp .ne (.attr 'a' 21) (.glob 21)) #[.ret (.lit (.bool false))] .nil]]
inductive Chain (b h ru:Nat) (m:Int) (bR:Bool) (tw:PV) (aX:List D) (aE:Int->Int->Bool) (mu:Int->Nat) (r G:Nat) (I:Ls->Prop) (pm:List MO) (dp:Int) (tl:List gi) (kn:List (D×D)) (R0:Option (Fl×Ls×PS)) (fl:Fl):Prop
 |mk (aA:List MO) (t':Nat) (eZ:List gi) (hU:List (D×D)) (bo:Ls) (e:R0=some (fl,bo,⟨aA,[]⟩)) (i:I bo) (H:de b h ru m bR tw aX aE mu r aA t' dp (tl++eZ) hU) (a:∀q∈eZ,aE q.1 q.2=true) (l1:eZ.length<=G) (l2:hU.length<=kn.length+G) (bl:bL b pm aA):Chain b h ru m bR tw aX aE mu r G I pm dp tl kn R0 fl
theorem FG{m:Int}{dp:Int}{r G i0:Nat}{I:Ls->Prop}{body:Ls->PS->Option (Fl×Ls×PS)}{Ok:Int->Prop}{p:Int->Bool}{rv:PV}(hb:9<=b)(hh:h<b)
  (step:∀x,Ok x->∀ls pm tt tl kn,I ls->Wd aa ay h pm->de b h ru m bR tw aX aE mu r pm tt dp tl kn->tl≠[]->tl.length+G<=80000->kn.length+G<=80000->Chain b h ru m bR tw aX aE mu r G I pm dp tl kn (body (ls.set i0 (some (.d (.int x)))) ⟨pm,[]⟩) (if p x then .next else .ret rv)) (ae:List Int):
  ∀(ls:Ls) (pm:List MO) (tt:Nat) (tl:List gi) (kn:List (D×D)),(∀x∈ae,Ok x)->I ls->Wd aa ay h pm->de b h ru m bR tw aX aE mu r pm tt dp tl kn->tl≠[]->tl.length+(ae.length+1)*G<=80000->kn.length+(ae.length+1)*G<=80000->
  Chain b h ru m bR tw aX aE mu r (ae.length*G) I pm dp tl kn (dO body (kf i0) (ae.map .int) ls ⟨pm,[]⟩) (if ae.all p then .next else .ret rv):=by
 induction ae with
 |nil=>
  intro ls pm tt tl kn _ i w R _ _ _;exact .mk pm tt [] kn ls rfl i (by rw[ej];exact R) (λ_ h=>nomatch h) (eJ _) (qR _ _) .refl
 |cons x ae ih=>
  intro ls pm tt tl kn hd i w R ne b1 eN;rw[fw,Nat.add_mul]at b1 eN;have hG:G<=1*G:=lM (Nat.one_mul G).symm;obtain⟨aA,t',eZ,hU,bo,e,i',R',a1,l1,l2,bl⟩:=step x (hd x (.head _)) ls pm tt tl kn i w R ne (aW (eU (aW hG (EV _ _)) _) b1) (aW (eU (aW hG (EV _ _)) _) eN);rw[List.all_cons,fw,Nat.add_mul];cases hp:p x with
  |false=>
   rw[hp]at e;exact .mk aA t' eZ hU bo (OO rfl e) i' R' a1 (aW l1 (aW hG (EV _ _))) (aW l2 (eU (aW hG (EV _ _)) _)) bl
  |true=>
   rw[hp]at e;obtain⟨dt,t2,tl3,Sf,EK,e2,i2,R2,a2,l3,l4,OU⟩:=ih bo aA t' (tl++eZ) hU (λy hy=>hd y (.tail _ hy)) i' (w.below hb hh bl) R' (λz=>ne (List.append_eq_nil_iff.mp z).1) (by rw[dS];exact od1 b1 (eU (aW l1 hG) _)) (od1 eN (aW l2 (eU hG _)));exact .mk dt t2 (eZ++tl3) Sf EK (fJ rfl e e2) i2 (by rw[<-eI];exact R2) (λq hq=>(pV.mp hq).elim (a1 q) (a2 q)) (by rw[dS];exact aW (lM (Nat.add_comm _ _)) (hZ l3 (aW l1 hG))) (aW l4 (od1 (dA _) (aW l2 (eU hG _)))) (bl.trans OU)
inductive U8 (b:Nat) (x1 x2:D):Ls->Prop
 |mk (y:Option PV):U8 b x1 x2 [some (.ax b),some (.d x1),some (.d x2),y]
theorem OY(H:kE aa ay b h ru bR tw aX dq aE mu M 18 (rn n 18)){s t:Int}{r:Nat}{dp:Int}(hr:mu s+mu t<=M)(OX:mu s+mu t<=r)(b3:dp+mu s+mu t<=51)(x:Int)(hx:dq x t/\mu x<mu s)(ls:Ls)(pm:List MO)(tt:Nat)(tl:List gi)(kn:List (D×D)):
  U8 b (.int s) (.int t) ls->Wd aa ay h pm->de b h ru 1 bR tw aX aE mu r pm tt dp tl kn->tl≠[]->tl.length+GG M<=80000->kn.length+GG M<=80000->Chain b h ru 1 bR tw aX aE mu r (GG M) (U8 b (.int s) (.int t)) pm dp tl kn (execs (aH n) b40 (ls.set 3 (some (.d (.int x)))) ⟨pm,[]⟩) (if aE x t then .next else .ret (.d (.bool false))):=by
 rintro⟨y⟩ w R ne b1 eN;obtain⟨aA,t',eZ,hU,e,R',a1,a2,a3,a4,bl⟩:=((H x t hx.1 (by have:=hx.2;omega) pm tt dp tl kn w (R.mono (by have:=hx.2;omega)) () () (by have:=hx.2;omega)).up R (dA _)).ex;refine .mk aA t' eZ hU [some (.ax b),some (.d (.int s)),some (.d (.int t)),some (.d (.int x))] ?_ (.mk _) R' a2 a3 a4 bl;cases ha:aE x t<;>dsimp! [R.R.iI,e,ha,R'.R.iI]
theorem f40(H:kE aa ay b h ru bR tw aX dq aE mu M 18 (rn (n+1) 18))(hb:9<=b)(hh:h<b){s t:Int}{ae:List Int}{pm:List MO}{tt:Nat}{dp:Int}{tl:List gi}{kn:List (D×D)}{r:Nat}(hr:mu s+mu t<=M)(OX:mu s+mu t<=r)(y:aD aa s (.un ae))(h2:s≠2)(hl:ae.length<=4)
  (hd:∀x∈ae,dq x t/\mu x<mu s) (w:Wd aa ay h pm) (R:de b h ru 1 bR tw aX aE mu r pm tt dp tl kn) (ne:tl≠[]) (b1:tl.length+5*GG M<=80000) (eN:kn.length+5*GG M<=80000) (b3:dp+mu s+mu t<=51):
  cZ b h ru 1 bR tw aX aE mu r (5*GG M) pm dp tl kn (rn (n+2) 40 [.ax b,.d (.int s),.d (.int t)] pm []) (ae.all λx=>aE x t):=by
 have hm:(ae.length+1)*GG M<=5*GG M:=mQ _ ();have yU:ae.length*GG M<=5*GG M:=mQ _ ();obtain⟨aA,t',eZ,hU,bo,e,i',R',c2,c3,c4,bl⟩:=FG hb hh (OY H hr OX b3) ae _ pm tt tl kn hd (.mk none) w R ne (ob2 ‹_› hm) (ob2 ‹_› hm);refine .in ?_ R' (λz=>absurd z ne) c2 (aW ‹_› yU) (ob5 hm ‹_›) bl;have e6:=f6 (n:=n) w y h2 (λi hi=>by cases hi;omega);obtain⟨y⟩:=i';cases ha:ae.all λx=>aE x t<;>rw[ha]at e<;>dsimp! [R.R.iI,e6,e,R'.R.iI]
def b41:Ss:=#[.asg 5 (.aR 'a' 7 .nil),.ite (.aR 'a' 4 #['b','e']) #[.ite (.cmp .eq (.bi .len (.attr (.attr 'a' 14) 0)) (.sub 'f' 0.0)) #[.ret (.lit (.bool true))] .nil,.bad,.bad] .nil]
inductive L41 (b:Nat) (x1 x2:D):Ls->Prop
 |mk (y z:Option PV):L41 b x1 x2 [some (.ax b),some (.d x1),some (.d x2),some (.d .none),y,z]
theorem OZ(l1:aX.length<=900000){m:Int}{G:Nat}{s:Int}{r:Nat}{P2:D}{dp:Int}(A:∀y,dq s y->∀pm tt tl kn,Wd aa ay h pm->de b h ru m bR tw aX aE mu r pm tt dp tl kn->tl.length+G<=80000->kn.length+G<=80000->
   cZ b h ru m bR tw aX aE mu r G pm dp tl kn (rn (n+1) 18 [.ax b,.d (.int s),.d (.int y)] pm []) (aE s y)) (x:Int) (hx:dq s x) (ls:Ls) (pm:List MO) (tt:Nat) (tl:List gi) (kn:List (D×D)):
  L41 b (.int s) P2 ls->Wd aa ay h pm->de b h ru m bR tw aX aE mu r pm tt dp tl kn->tl≠[]->tl.length+G<=80000->kn.length+G<=80000->Chain b h ru m bR tw aX aE mu r G (L41 b (.int s) P2) pm dp tl kn (execs (aH (n+1)) b41 (ls.set 4 (some (.d (.int x)))) ⟨pm,[]⟩) (if !aE s x then .next else .ret (.d (.bool true))):=by
 rintro⟨y,z⟩ w R ne b1 eN;obtain⟨aA,t',eZ,hU,e,R',a1,a2,a3,a4,bl⟩:=(A x hx pm tt tl kn w R b1 eN).ex;have U3:(fk tl).length=tl.length:=eT _;have OT:=f21 n R.R () (by rw[U3];omega);have f:fits aX=true:=cT ();refine .mk aA t' eZ hU [some (.ax b),some (.d (.int s)),some (.d P2),some (.d .none),some (.d (.int x)),some (.d (.tup [.int aX.length,.int (fk tl).length]))] ?_ (.mk _ _) R' a2 a3 a4 bl;cases ha:aE s x<;>dsimp! [R.R.iI,OT,e,ha,R'.R.iI,R'.R.iN,R'.R.iL,↑f,beq_self_eq_true _]
theorem z_(p:Int->Bool):∀l:List Int,l.all (λx=>!p x)=!l.any p
 |[]=>rfl
 |x::l=>by rw[List.all_cons,List.any_cons,z_ p l,Bool.not_or]
theorem Yd(l1:aX.length<=900000){m:Int}{G:Nat}(hb:9<=b)(hh:h<b){s:Int}{r:Nat}{dp:Int}(A:∀y,dq s y->∀pm tt tl kn,Wd aa ay h pm->de b h ru m bR tw aX aE mu r pm tt dp tl kn->tl.length+G<=80000->kn.length+G<=80000->
   cZ b h ru m bR tw aX aE mu r G pm dp tl kn (rn (n+1) 18 [.ax b,.d (.int s),.d (.int y)] pm []) (aE s y))
  {ae:List Int} {pm:List MO} {tt:Nat} {tl:List gi} {kn:List (D×D)} (hl:ae.length<=4) (hd:∀x∈ae,dq s x) (w:Wd aa ay h pm) (R:de b h ru m bR tw aX aE mu r pm tt dp tl kn) (ne:tl≠[]) (b1:tl.length+5*G<=80000) (eN:kn.length+5*G<=80000):
  cZ b h ru m bR tw aX aE mu r (4*G) pm dp tl kn (rn (n+2) 41 [.ax b,.d (.int s),.d (.tup (ae.map .int))] pm []) (ae.any λx=>aE s x):=by
 have hm:(ae.length+1)*G<=5*G:=mQ _ ();have yU:ae.length*G<=4*G:=mQ _ hl;obtain⟨aA,t',eZ,hU,bo,e,i',R',c2,c3,c4,bl⟩:=FG hb hh (OZ (P2:= .tup (ae.map .int)) l1 A) ae _ pm tt tl kn hd (.mk none none) w R ne (ob2 ‹_› hm) (ob2 ‹_› hm);refine .in ?_ R' (λz=>absurd z ne) c2 (ob4 hm ‹_›) (ob3 hm ‹_›) bl;rw[z_]at e;obtain⟨y,z⟩:=i';cases ha:ae.any λx=>aE s x<;>rw[ha]at e<;>dsimp! [e]
end
section
variable{aa ay:List D}{b h ru:Nat}{bR:Bool}{tw:PV}{aX:List D}{dq:Int->Int->Prop}{aE:Int->Int->Bool}{mu:Int->Nat}{M:Nat}{n:Nat}
theorem I8(s:Int)(ae:List Int):((ae.map D.int).any λy=>bc y (.int s))=ae.contains s:=by
 induction ae with
 |nil=>rfl
 |cons x r ih=>
  rw[kg,List.any_cons,ih,List.contains_cons];congr 1;show(x==s)=(s==x);by_cases e:x=s
  ·subst e;rfl
  ·have e':s≠x:=λz=>e z.symm;rw[beq_eq_false_iff_ne.mpr e,beq_eq_false_iff_ne.mpr e']
theorem kF(ae:List Int):lN (ae.map D.int)=true:=by
 induction ae with
 |nil=>rfl
 |cons x r ih=>show(qv (.int x)&&lN (r.map D.int))=true;rw[ih];rfl
theorem yV(ae:List Int):dY (ae.map D.int)=0:=by
 induction ae with
 |nil=>rfl
 |cons x r ih=>show max (dj (.int x)) (dY (r.map D.int))=0;rw[ih];rfl
theorem memG(s:Int)(ae:List Int):(qv (.int s)&&lN (ae.map D.int)&&Nat.ble (min (dY (ae.map D.int)) (dj (.int s))) 50)=true:=by rw[kF,yV];rfl
theorem f42(l1:aX.length<=900000)(H:kE aa ay b h ru bR tw aX dq aE mu M 18 (rn (n+3) 18))(H':kE aa ay b h ru bR tw aX dq aE mu M 18 (rn (n+1) 18))(hb:9<=b)(hh:h<b){s t:Int}{S:Ty}{ae:List Int}{par:Bool}{pm:List MO}{tt:Nat}{dp:Int}{tl:List gi}{kn:List (D×D)}{r:Nat}(hr:mu s+mu t<=M)(OX:mu s+mu t<=r)
  (y:aD aa s S) (x:aD aa t (.un ae)) (nu:S.fX=false) (h2:t≠2) (hl:ae.length<=4) (hd:∀x∈ae,dq s x/\mu x<mu t) (P:OW ay dq aE mu s t S par) (w:Wd aa ay h pm) (R:de b h ru 1 bR tw aX aE mu r pm tt dp tl kn) (ne:tl≠[]) (b1:tl.length+5*GG M<=80000) (eN:kn.length+5*GG M<=80000) (b3:dp+mu s+mu t<=51):
  cZ b h ru 1 bR tw aX aE mu r (5*GG M) pm dp tl kn (rn (n+5) 42 [.ax b,.d (.int s),.d (.int t)] pm []) (ae.contains s||ae.any (λx=>aE s x)||par):=by
 have e6:=f6 (n:=n+3) w x h2 (λi hi=>by cases hi;omega);have mg:=memG s ae;have wL:=I8 s ae;cases hc:ae.contains s with
 |true=>
  rw[hc]at wL;exact .in (by dsimp! [R.R.iI,e6,↑mg,wL]) (by rw[ej];exact R) (λ_=>rfl) (λ_ h=>(nomatch h)) (eJ _) () .refl
 |false=>
  rw[hc]at wL;rw[Bool.false_or];obtain⟨fR,t1,tl1,U9,U_,R1,a1,a2,a3,a4,Ye⟩:=(Yd (dq:=λs y=>dq s y/\mu y<mu t) (n:=n+2) (m:=1) (G:=GG M) (r:=r) l1 hb hh (s:=s) (λy hy pm tt tl kn w R b1 eN=>(H s y hy.1 (by have:=hy.2;omega) pm tt dp tl kn w (R.mono (by have:=hy.2;omega)) b1 eN (by have:=hy.2;omega)).up R (dA _)) hl hd w R ne b1 eN).ex;cases ha:ae.any λx=>aE s x with
  |true=>
   rw[ha]at U_;exact .in (by dsimp! [R.R.iI,e6,↑mg,wL,U_]) R1 a1 a2 () () Ye
  |false=>
   rw[ha]at U_;rw[Bool.false_or];have w1:=w.below hb hh Ye;have hK:=uZ S;unfold Yc at hK;cases U':S.df with
   |true=>
    obtain⟨dt,t2,eZ,Sf,e22,R2,c1,c2,c3,c4,OU⟩:=(U7 (n:=n) H' hb hh hr OX y P w1 R1 (by rw[dS];omega) () b3).ex;rw[U']at hK;exact .in (by dsimp! [R.R.iI,e6,↑mg,wL,U_,w1.i0,w1.i1,m_ _,hK,e22]) (by rw[<-eI];exact R2) (λz=>absurd z ne) (λq hq=>(pV.mp hq).elim (a2 q) (c2 q)) (by rw[dS];omega) () (Ye.trans OU)
   |false=>
    have hp:par=false:=by cases S<;>first|exact P|cases U'
    have hv:S.val=true:=by cases S<;>first|(cases nu;done)|(cases U';done)|rfl
    rw[hp];refine .in ?_ R1 a1 a2 () () Ye;clear hK U' P nu;cases S<;>first|(cases hv;done)|dsimp! [R.R.iI,e6,↑mg,wL,U_,w1.i0,w1.i1]
end
section
variable{aa ay:List D}{b h ru:Nat}{bR:Bool}{tw:PV}{aX:List D}{dq:Int->Int->Prop}{aE:Int->Int->Bool}{mu:Int->Nat}{M:Nat}{n:Nat}
theorem Aa(T:Ty):(T.kind==6)=T.fX:=by cases T<;>rfl
theorem f38(l1:aX.length<=900000)(H:∀j,kE aa ay b h ru bR tw aX dq aE mu M 18 (rn (n+j+1) 18))(hb:9<=b)(hh:h<b){s t:Int}{S T:Ty}{pm:List MO}{tt:Nat}{dp:Int}{tl:List gi}{kn:List (D×D)}(hr:mu s+mu t<=M)
  (y:aD aa s S) (x:aD aa t T) (ne0:s≠t) (hs:z8 s) (ht:pE t) (St:Step ay dq aE mu s t S T) (hnv:S.df=true\/S.fX=true\/T.df=true\/T.fX=true) (w:Wd aa ay h pm) (R:de b h ru 1 bR tw aX aE mu (mu s+mu t) pm tt dp tl kn) (ne:tl≠[]) (b1:tl.length+5*GG M<=80000) (eN:kn.length+5*GG M<=80000) (b3:dp+mu s+mu t<=51):
  cZ b h ru 1 bR tw aX aE mu (mu s+mu t) (5*GG M) pm dp tl kn (rn (n+6) 38 [.ax b,.d (.int s),.d (.int t)] pm []) (aE s t):=by
 have kS:=Aa S;have kT:=Aa T;have s2:s≠2:=λe=>absurd (e▸hs:z8 2) (by unfold z8;decide);have t2:t≠2:=λe=>absurd (e▸ht:pE 2) (by unfold pE;decide);have I:=R.R.iI;cases St with
 |same e _=>exact absurd e ne0
 |un _ l d a=>
  rw[a];obtain⟨aA,t',eZ,hU,e,X⟩:=(f40 (n:=n+3) (H 3) hb hh hr (dA _) y s2 l d w R ne b1 eN b3).ex;refine⟨aA,t',eZ,hU,?_,X⟩
  dsimp! [m_ _,kS,e]
 |to _ nu l d p a=>
  rw[a];obtain⟨aA,t',eZ,hU,e,X⟩:=(f42 (n:=n) l1 (H 2) (H 0) hb hh hr (dA _) y x nu t2 l d p w R ne b1 eN b3).ex;refine⟨aA,t',eZ,hU,?_,X⟩;rw[nu]at kS
  dsimp! [m_ _,kS,kT,e]
 |df _ nu nt o p a=>
  rw[a];have G1:GG M<=5*GG M:=Nat.le_mul_of_pos_left _ ∅;obtain⟨aA,t',eZ,hU,e,X⟩:=((U7 (n:=n+1) (H 1) hb hh hr (dA _) y p w R () () b3).up R G1).ex;have e39:=f39 (pm:=pm) (n:=n+4) S T o;refine⟨aA,t',eZ,hU,?_,X⟩;rw[nu]at kS;rw[nt]at kT
  dsimp! [m_ _,kS,kT,e39,e]
 |val _ v v' a=>
  exfalso;rcases hnv with z|z|z|z
  ·cases S<;>first|(cases v;done)|cases z
  ·cases S<;>first|(cases v;done)|cases z
  ·cases T<;>first|(cases v';done)|cases z
  ·cases T<;>first|(cases v';done)|cases z
theorem Va(l1:aX.length<=900000)(hb:9<=b)(hh:h<b)(HQ:∀s t,dq s t->EL aa ay dq aE mu s t)(M:Nat):∀(n:Nat),kE aa ay b h ru bR tw aX dq aE mu M 27 (rn (n+8*M+8) 27):=by
 induction M with
 |zero=>intro n s t _ hr;exact absurd hr (Nat.not_lt_zero _)
 |succ M ih=>
  intro n s t hq hr pm tt dp tl kn w R b1 eN b3;obtain⟨S,T,y,x,hs,ht,h1,St⟩:=(HQ s t hq).ex;have lev:n+8*(M+1)+8=(n+8*M+15)+1:=();have gg:GG (M+1)=2*(5*GG M)+2:=by show 10*GG M+2=_;omega
  rw[lev];by_cases e:s=t
  ·have ha:aE s t=true:=by
    cases St with
    |same _ a=>exact a
    |un ne _ _ _=>exact absurd e ne
    |to ne _ _ _ _ _=>exact absurd e ne
    |df ne _ _ _ _ _=>exact absurd e ne
    |val ne _ _ _=>exact absurd e ne
   rw[ha];subst e;refine⟨pm,tt,[],kn,?_,by rw[ej];exact R,λ_=>rfl,(λ_ h=>(nomatch h)),eJ _,(),.refl⟩
   dsimp! [beq_self_eq_true _]
  ·have e':(s==t)=false:=by simpa using e
   have I:=R.R.iI;have c1:=Yb (n:=n+8*M+12) w y;have c2:=Yb (n:=n+8*M+12) w x;have c3:=f32 (n:=n+8*M+10) w R.R (.inl rfl) y x hs ht h1;cases hv:(S.df||S.fX||T.df||T.fX)with
   |false=>
    rw[hv]at c3;have ha:aE s t=false:=by
     simp only[Bool.or_eq_false_iff]at hv;cases St with
     |same e2 _=>exact absurd e2 e
     |un _ _ _ _=>exact noB hv.1.1.2.symm
     |to _ _ _ _ _ _=>exact noB hv.2.symm
     |df _ _ _ o _ _=>
      rcases o with o|o
      ·rw[hv.1.1.1]at o;cases o
      ·rw[hv.1.2]at o;cases o
     |val _ _ _ a=>exact a
    rw[ha];refine⟨pm,tt,[],kn,?_,by rw[ej];exact R,λ_=>rfl,(λ_ h=>(nomatch h)),eJ _,(),.refl⟩
    dsimp! [e',c1,c2,c3]
   |true=>
    rw[hv]at c3;have hnv:S.df=true\/S.fX=true\/T.df=true\/T.fX=true:=by
     simp only[mO]at hv;rcases hv with((z|z)|z)|z
     ·exact .inl z
     ·exact .inr (.inl z)
     ·exact .inr (.inr (.inl z))
     ·exact .inr (.inr (.inr z))
    have H18:∀j,kE aa ay b h ru bR tw aX dq aE mu M 18 (rn (n+8*M+8+j+1) 18):=λj=>LC (by rw[show n+8*M+8+j=(n+j)+8*M+8 by omega];exact ih (n+j));obtain⟨aA,t',eZ,hU,r,X⟩:=(f28 (n:=n+8*M+13) (G:=5*GG M) (W:=Wd aa ay h) (λpm aA bl w=>w.below hb hh bl) (.inl rfl) l1
     (λpm t' dp tl kn w R ne b1 eN b3=>f38 (n:=n+8*M+8) l1 H18 hb hh () y x e hs ht St hnv w R ne b1 eN b3) w R (gg▸b1) (gg▸eN) b3).ex
    refine⟨aA,t',eZ,hU,?_,by rw[gg];exact X⟩
    dsimp! [e',c1,c2,c3,r]
end
inductive tJ (dq:Int->Int->Prop) (aE:Int->Int->Bool) (mu:Int->Nat) (s t:Int):Ty->Ty->Prop
 |same {S T:Ty} (e:s=t) (a:aE s t=true):tJ dq aE mu s t S T
 |un {ae hV:List Int} (ne:s≠t) (l:ae.length<=4) (l':hV.length<=4) (d:∀x∈ae,∀y∈hV,dq x y/\dq y x/\mu x<mu s/\mu y<mu t) (a:aE s t=((ae.all λx=>hV.any λy=>aE x y)&&(hV.all λy=>ae.any λx=>aE y x))):tJ dq aE mu s t (.un ae) (.un hV)
 |one {S T:Ty} (ne:s≠t) (o:S.fX=!T.fX) (a:aE s t=false):tJ dq aE mu s t S T
 |val {S T:Ty} (ne:s≠t) (o:S.val=true\/T.val=true) (a:aE s t=false):tJ dq aE mu s t S T
structure u7 (aa:List D) (dq:Int->Int->Prop) (aE:Int->Int->Bool) (mu:Int->Nat) (s t:Int):Prop where
 ex:∃S T,aD aa s S/\aD aa t T/\pE s/\pE t/\tJ dq aE mu s t S T
def wM(aa ay:List D)(b h ru:Nat)(bR:Bool)(tw:PV)(aX:List D)(dq:Int->Int->Prop)(aE:Int->Int->Bool)(mu:Int->Nat)(M:Nat)(f:Nat)(sp:Spec):Prop:=
 ∀s t,dq s t->mu s+mu t<M->∀pm tt dp tl kn,Wd aa ay h pm->de b h ru 3 bR tw aX aE mu (mu s+mu t+1) pm tt dp tl kn->tl.length+O0 M<=80000->kn.length+O0 M<=80000->dp+mu s+mu t<=50->
  cZ b h ru 3 bR tw aX aE mu (mu s+mu t+1) (O0 M) pm dp tl kn (sp [.ax b,.d (.int s),.d (.int t)] pm []) (aE s t)
where
 O0:Nat->Nat
  |0=>0
  |M+1=>96*O0 M+2
section
variable{aa ay:List D}{b h ru:Nat}{bR:Bool}{tw:PV}{aX:List D}{dq:Int->Int->Prop}{aE:Int->Int->Bool}{mu:Int->Nat}{M:Nat}{n:Nat}
abbrev G3:=wM.O0
theorem Ab(H:wM aa ay b h ru bR tw aX dq aE mu M 27 (rn n 27)):wM aa ay b h ru bR tw aX dq aE mu M 18 (rn (n+1) 18):=by
 intro s t hq hr pm tt dp tl kn w R b1 eN b3;obtain⟨aA,t',eZ,hU,e,x⟩:=(H s t hq hr pm tt dp tl kn w R b1 eN b3).ex;refine⟨aA,t',eZ,hU,?_,x⟩
 dsimp! [e]
def b44:Ss:=#[.ite (.nt (.call 41 #['a','d','c'])) #[.ret (.lit (.bool false))] .nil]
theorem O1{r G:Nat}{hV:List Int}{dp:Int}{P1:D}(A:∀x,dq x 0->∀pm tt tl kn,Wd aa ay h pm->de b h ru 3 bR tw aX aE mu r pm tt dp tl kn->tl≠[]->tl.length+G<=80000->kn.length+G<=80000->
   cZ b h ru 3 bR tw aX aE mu r G pm dp tl kn (rn n 41 [.ax b,.d (.int x),.d (.tup (hV.map .int))] pm []) (hV.any λy=>aE x y)) (x:Int) (hx:dq x 0) (ls:Ls) (pm:List MO) (tt:Nat) (tl:List gi) (kn:List (D×D)):
  U8 b P1 (.tup (hV.map .int)) ls->Wd aa ay h pm->de b h ru 3 bR tw aX aE mu r pm tt dp tl kn->tl≠[]->tl.length+G<=80000->kn.length+G<=80000->Chain b h ru 3 bR tw aX aE mu r G (U8 b P1 (.tup (hV.map .int))) pm dp tl kn (execs (aH n) b44 (ls.set 3 (some (.d (.int x)))) ⟨pm,[]⟩) (if hV.any (λy=>aE x y)then .next else .ret (.d (.bool false))):=by
 rintro⟨y⟩ w R ne b1 eN;obtain⟨aA,t',eZ,hU,e,R',a1,a2,a3,a4,bl⟩:=(A x hx pm tt tl kn w R ne b1 eN).ex;generalize (hV.any λy=>aE x y)=v at e⊢;refine .mk aA t' eZ hU [some (.ax b),some (.d P1),some (.d (.tup (hV.map .int))),some (.d (.int x))] ?_ (.mk _) R' a2 a3 a4 bl;cases v<;>dsimp! [e]
theorem f44(hb:9<=b)(hh:h<b){r G:Nat}{ae hV:List Int}{dp:Int}(A:∀x,dq x 0->∀pm tt tl kn,Wd aa ay h pm->de b h ru 3 bR tw aX aE mu r pm tt dp tl kn->tl≠[]->tl.length+G<=80000->kn.length+G<=80000->
   cZ b h ru 3 bR tw aX aE mu r G pm dp tl kn (rn n 41 [.ax b,.d (.int x),.d (.tup (hV.map .int))] pm []) (hV.any λy=>aE x y))
  {pm:List MO} {tt:Nat} {tl:List gi} {kn:List (D×D)} (hl:ae.length<=4) (hd:∀x∈ae,dq x 0) (w:Wd aa ay h pm) (R:de b h ru 3 bR tw aX aE mu r pm tt dp tl kn) (ne:tl≠[]) (b1:tl.length+5*G<=80000) (eN:kn.length+5*G<=80000):
  cZ b h ru 3 bR tw aX aE mu r (4*G) pm dp tl kn (rn (n+1) 44 [.ax b,.d (.tup (ae.map .int)),.d (.tup (hV.map .int))] pm []) (ae.all λx=>hV.any λy=>aE x y):=by
 have hm:(ae.length+1)*G<=5*G:=mQ _ ();have yU:ae.length*G<=4*G:=mQ _ hl;obtain⟨aA,t',eZ,hU,bo,e,i',R',c2,c3,c4,bl⟩:=FG hb hh (O1 (P1:= .tup (ae.map .int)) A) ae _ pm tt tl kn hd (.mk none) w R ne (ob2 ‹_› hm) (ob2 ‹_› hm);refine .in ?_ R' (λz=>absurd z ne) c2 (ob4 hm ‹_›) (ob3 hm ‹_›) bl;obtain⟨z⟩:=i';cases ha:ae.all λx=>hV.any λy=>aE x y<;>rw[ha]at e<;>dsimp! [e]
theorem f43(l1:aX.length<=900000)(H:wM aa ay b h ru bR tw aX dq aE mu M 18 (rn (n+1) 18))(hb:9<=b)(hh:h<b){s t:Int}{S T:Ty}{pm:List MO}{tt:Nat}{dp:Int}{tl:List gi}{kn:List (D×D)}(hr:mu s+mu t<=M)
  (y:aD aa s S) (x:aD aa t T) (ne0:s≠t) (St:tJ dq aE mu s t S T) (nv:S.val=false/\T.val=false) (w:Wd aa ay h pm) (R:de b h ru 3 bR tw aX aE mu (mu s+mu t) pm tt dp tl kn) (ne:tl≠[]) (b1:tl.length+48*G3 M<=80000) (eN:kn.length+48*G3 M<=80000) (b3:dp+mu s+mu t<=51):
  cZ b h ru 3 bR tw aX aE mu (mu s+mu t) (48*G3 M) pm dp tl kn (rn (n+4) 43 [.ax b,.d (.int s),.d (.int t)] pm []) (aE s t):=by
 have kS:=Aa S;have kT:=Aa T;have I:=R.R.iI;cases St with
 |same e _=>exact absurd e ne0
 |val _ o _=>rcases o with o|o<;>(first|(rw[nv.1]at o;cases o;done)|(rw[nv.2]at o;cases o;done))
 |one _ o a=>
  rw[a];refine⟨pm,tt,[],kn,?_,by rw[ej];exact R,λ_=>rfl,(λ_ h=>(nomatch h)),eJ _,(),.refl⟩;have c6:∀T:Ty,([D.int 6,D.int 7].any λy=>bc y (.int T.kind))=T.fX:=λT=>by cases T<;>rfl
  have kk:(S.kind==T.kind)=false:=by cases S<;>cases T<;>first|rfl|(cases o;done)
  cases hu:S.fX with
  |true=>dsimp! [m_ _,kk,(c6 S).trans hu]
  |false=>
   rw[hu]at o;have hT:T.fX=true:=by cases q:T.fX<;>simp[q]at o⊢
   dsimp! [m_ _,kk,(c6 S).trans hu,(c6 T).trans hT]
 |@un ae hV _ l l' d a=>
  rw[a];have k4:25*G3 M+20*G3 M<=48*G3 M:=aW (lM (Nat.add_mul 25 20 _).symm) (mQ _ ∅);have k5:20*G3 M+20*G3 M<=48*G3 M:=aW (lM (Nat.add_mul 20 20 _).symm) (mQ _ ∅);have dd:∀x∈ae,∀y∈hV,mu x+mu y+2<=mu s+mu t:=λx hx y hy=>aW (lM (Nat.add_add_add_comm (mu x) (mu y) 1 1)) (hZ (d x hx y hy).2.2.1 (d x hx y hy).2.2.2);have E:∀(ae hV:List Int),ae.length<=4->hV.length<=4->(∀x∈ae,∀y∈hV,dq x y/\mu x+mu y+2<=mu s+mu t)->∀pm tt tl kn,Wd aa ay h pm->de b h ru 3 bR tw aX aE mu (mu s+mu t) pm tt dp tl kn->tl≠[]->tl.length+25*G3 M<=80000->kn.length+25*G3 M<=80000->
    cZ b h ru 3 bR tw aX aE mu (mu s+mu t) (20*G3 M) pm dp tl kn (rn (n+3) 44 [.ax b,.d (.tup (ae.map .int)),.d (.tup (hV.map .int))] pm []) (ae.all λx=>hV.any λy=>aE x y):=by
   intro ae hV l l' d pm tt tl kn w R ne b1 eN;have z:4*(5*G3 M)=20*G3 M:=();rw[<-z];refine f44 (dq:=λx _=>x∈ae) hb hh (λx hx pm tt tl kn w R ne b1 eN=>?_) l (λx hx=>hx) w R ne () ();refine(Yd (dq:=λ_ y=>y∈hV) (n:=n) (G:=G3 M) l1 hb hh (λy hy pm tt tl kn w R b1 eN=>?_) l' (λy hy=>hy) w R ne () ()).up R ();obtain⟨q1,q2⟩:=d x hx y hy;exact(H x y q1 () pm tt dp tl kn w (R.mono ()) (by unfold G3 at b1;omega) (by unfold G3 at eN;omega) ()).up R (dA _)
  obtain⟨aA,t',eZ,hU,e,R',a1,a2,a3,a4,bl⟩:=(E ae hV l l' (λx hx y hy=>⟨(d x hx y hy).1,dd x hx y hy⟩) pm tt tl kn w R ne (aW (eU (mQ _ ∅) _) b1) (aW (eU (mQ _ ∅) _) eN)).ex;cases hv:ae.all λx=>hV.any λy=>aE x y with
  |false=>
   rw[hv]at e;refine⟨aA,t',eZ,hU,?_,R',λz=>absurd z ne,a2,aW a3 (mQ _ ∅),aW a4 (eU (mQ _ ∅) _),bl⟩
   dsimp! [e]
  |true=>
   rw[hv]at e;obtain⟨dt,t2,tl3,Sf,e2,R2,c1,c2,c3,c4,OU⟩:=(E hV ae l' l (λy hy x hx=>⟨(d x hx y hy).2.1,Nat.add_comm (mu x) (mu y)▸dd x hx y hy⟩) aA t' (tl++eZ) hU (w.below hb hh bl) R' (by simp[ne]) (by rw[dS];exact od1 (aW (eU k4 _) b1) (eU a3 _)) (od1 (aW (eU k4 _) eN) a4)).ex;refine⟨dt,t2,eZ++tl3,Sf,?_,by rw[<-eI];exact R2,λz=>absurd z ne,λq hq=>(pV.mp hq).elim (a2 q) (c2 q),by rw[dS];exact aW (hZ a3 c3) k5,aW c4 (aW (od1 (dA _) a4) (eU k5 _)),bl.trans OU⟩
   dsimp! [e,e2]
theorem I9(l1:aX.length<=900000)(hb:9<=b)(hh:h<b)(HQ:∀s t,dq s t->u7 aa dq aE mu s t)(M:Nat):∀(n:Nat),wM aa ay b h ru bR tw aX dq aE mu M 27 (rn (n+8*M+8) 27):=by
 induction M with
 |zero=>intro n s t _ hr;exact absurd hr (Nat.not_lt_zero _)
 |succ M ih=>
  intro n s t hq hr pm tt dp tl kn w R b1 eN b3;obtain⟨S,T,y,x,hs,ht,St⟩:=(HQ s t hq).ex;have lev:n+8*(M+1)+8=(n+8*M+15)+1:=();have gg:wM.O0 (M+1)=2*(48*G3 M)+2:=by show 96*wM.O0 M+2=_;unfold G3;omega
  rw[lev];by_cases e:s=t
  ·have ha:aE s t=true:=by
    cases St with
    |same _ a=>exact a
    |un ne _ _ _ _=>exact absurd e ne
    |one ne _ _=>exact absurd e ne
    |val ne _ _=>exact absurd e ne
   rw[ha];subst e;refine⟨pm,tt,[],kn,?_,by rw[ej];exact R,λ_=>rfl,(λ_ h=>(nomatch h)),eJ _,(),.refl⟩
   dsimp! [beq_self_eq_true _]
  ·have e':(s==t)=false:=by simpa using e
   have I:=R.R.iI;have O2:s≠13:=by unfold pE at hs;omega
   have t13:t≠13:=by unfold pE at ht;omega
   have Ds:(s==13)=false:=by simpa using O2
   have FH:(t==13)=false:=by simpa using t13
   have c1:=Yb (n:=n+8*M+12) w y;have c2:=Yb (n:=n+8*M+12) w x;have vS:=u0 S;have vT:=u0 T;unfold vaK at vS vT;cases hv:(S.val||T.val)with
   |true=>
    have ha:aE s t=false:=by
     cases St with
     |same e2 _=>exact absurd e2 e
     |un _ _ _ _ _=>exact noB hv
     |one _ _ a=>exact a
     |val _ _ a=>exact a
    rw[ha];refine⟨pm,tt,[],kn,?_,by rw[ej];exact R,λ_=>rfl,(λ_ h=>(nomatch h)),eJ _,(),.refl⟩;cases q:S.val<;>cases q':T.val<;>rw[q]at vS hv<;>rw[q']at vT hv<;>first|(cases hv;done)|dsimp! [m_ _,e',Ds,FH,c1,c2,vS,vT]
   |false=>
    rw[Bool.or_eq_false_iff]at hv;rw[hv.1]at vS;rw[hv.2]at vT;have H18:wM aa ay b h ru bR tw aX dq aE mu M 18 (rn (n+8*M+10+1) 18):=Ab (by rw[show n+8*M+10=(n+2)+8*M+8 by omega];exact ih (n+2));obtain⟨aA,t',eZ,hU,r,X⟩:=(f28 (n:=n+8*M+13) (G:=48*G3 M) (W:=Wd aa ay h) (λpm aA bl w=>w.below hb hh bl) (.inr rfl) l1
     (λpm t' dp tl kn w R ne b1 eN b3=>f43 (n:=n+8*M+10) l1 H18 hb hh () y x e St hv w R ne b1 eN b3) w R () () b3).ex
    refine⟨aA,t',eZ,hU,?_,by rw[gg];exact X⟩
    dsimp! [m_ _,e',Ds,FH,c1,c2,vS,vT,r]
end
mutual
noncomputable def jP:D->Bool
 | .int _=>true
 | .str _=>true
 | .tup l=>nc l
 |_=>false
noncomputable def nc:List D->Bool
 |[]=>true
 |a::r=>jP a&&nc r
end
mutual
theorem lz:∀a b:D,jP a=true->jP b=true->(bc a b=true<->a=b)
 | .int i,b,_,hb=>by cases b<;>first|exact noB hb|exact⟨λe=>noB e,λe=>nomatch e⟩|exact fg.trans ⟨congrArg D.int,D.int.inj⟩
 | .str i,b,_,hb=>by cases b<;>first|exact noB hb|exact⟨λe=>noB e,λe=>nomatch e⟩|exact fg.trans ⟨congrArg D.str,D.str.inj⟩
 | .tup l,b,ha,hb=>by cases b<;>first|exact noB hb|exact⟨λe=>noB e,λe=>nomatch e⟩|exact(rh l _ ha hb).trans ⟨congrArg D.tup,D.tup.inj⟩
 | .none,_,ha,_=>by cases ha
 | .bool _,_,ha,_=>by cases ha
 | .lst _,_,ha,_=>by cases ha
 | .gT _,_,ha,_=>by cases ha
 | .cin _,_,ha,_=>by cases ha
 | .oy _,_,ha,_=>by cases ha
theorem rh:∀a b:List D,nc a=true->nc b=true->(kc a b=true<->a=b)
 |[],[],_,_=>⟨λ_=>rfl,λ_=>rfl⟩
 |[],_::_,_,_=>⟨λe=>noB e,λe=>nomatch e⟩
 |_::_,[],_,_=>⟨λe=>noB e,λe=>nomatch e⟩
 |x::r,y::t,ha,hb=>by have ha:=jJ.mp ha;have hb:=jJ.mp hb;show(bc x y&&kc r t)=true<->_;rw[bx,lz x y ha.1 hb.1,rh r t ha.2 hb.2];simp
end
structure dD (r:D):Prop where
 pl:jP r=true
 ko:keyOk r=true
 kd:cy r=3
def jg:List D->Nat->List (D×D)
 |[],_=>[]
 |r::l,k=>(r,.int k)::jg l (k+1)
theorem wN:∀(l:List D) (k:Nat) (r:D),jg (l++[r]) k=jg l k++[(r,.int (k+l.length:Nat))]
 |[],k,r=>rfl
 |x::l,k,r=>by show(x,D.int k)::jg (l++[r]) (k+1)=_;rw[wN l (k+1) r];show _=(x,D.int k)::(jg l (k+1)++_);rw[show k+1+l.length=k+(x::l).length by simp only[fw];omega]
def ml(r:D):List D->Nat->Option Nat
 |[],_=>none
 |x::l,k=>if bc r x then some k else ml r l (k+1)
theorem Ac{r:D}:∀(l:List D) (k:Nat),fM r (jg l k)=(ml r l k).isSome
 |[],_=>rfl
 |x::l,k=>by show(bc r x||fM r (jg l (k+1)))=(if bc r x then some k else ml r l (k+1)).isSome;rw[Ac l (k+1)];cases bc r x<;>simp
theorem Ad{r:D}:∀(l:List D) (k:Nat),kA r (jg l k)=(ml r l k).map λ(i:Nat)=>D.int i
 |[],_=>rfl
 |x::l,k=>by show(if bc r x then some (D.int k)else kA r (jg l (k+1)))=(if bc r x then some k else ml r l (k+1)).map _;rw[Ad l (k+1)];cases bc r x<;>simp
theorem Ae{r v:D}:∀(l:List D) (k:Nat),ml r l k=none->dput r v (jg l k)=jg l k++[(r,v)]
 |[],_,_=>rfl
 |x::l,k,h=>by
  have h:(if bc r x then some k else ml r l (k+1))=none:=h;cases q:bc r x with
  |true=>rw[q]at h;cases h
  |false=>
   rw[q]at h;show(if bc r x then _ else _)=_;rw[q];show(x,D.int k)::dput r v (jg l (k+1))=(x,D.int k)::(jg l (k+1)++_);rw[Ae l (k+1) h]
theorem oE{r:D}(hr:jP r=true):∀(l:List D) (k i:Nat),(∀x∈l,jP x=true)->ml r l k=some i->k<=i/\l[i-k]?=some r
 |[],_,_,_,h=>by cases h
 |x::l,k,i,hl,h=>by
  have h:(if bc r x then some k else ml r l (k+1))=some i:=h;cases q:bc r x with
  |true=>
   rw[q]at h;have e:k=i:=by simpa using h
   subst e;have:=(lz r x hr (hl x (.head _))).mp q;subst this;exact⟨dA _,by simp⟩
  |false=>
   rw[q]at h;obtain⟨a,b⟩:=oE hr l (k+1) i (λy hy=>hl y (.tail _ hy)) h;refine⟨by omega,?_⟩;rw[show i-k=(i-(k+1))+1 by omega];simpa using b
theorem oF{r:D}(hr:jP r=true):∀(l:List D) (k:Nat),(∀x∈l,jP x=true)->ml r l k=none->r∉l
 |[],_,_,_=>yz
 |x::l,k,hl,h=>by
  have h:(if bc r x then some k else ml r l (k+1))=none:=h;cases q:bc r x with
  |true=>rw[q]at h;cases h
  |false=>
   rw[q]at h;intro hm;rcases dJ.mp hm with e|hm
   ·subst e;rw[(lz r r hr hr).mpr rfl]at q;cases q
   ·exact oF hr l (k+1) (λy hy=>hl y (.tail _ hy)) h hm
def bM(aa:List D)(r:D):List D×Int:=match ml r aa 0 with
 |some i=>(aa,i)
 |none=>(aa++[r],aa.length)
structure cz (aa:List D):Prop where
 ok:∀r∈aa,dD r
 nd:aa.Nodup
structure ri (aa e_:List D) (r:D) (i:Int):Prop where
 rs:cz e_
 pre:aa<+:e_
 nn:0<=i
 at_:e_[i.toNat]?=some r
 len:e_.length<=aa.length+1
theorem cM{aa:List D}{r:D}(R:cz aa)(h:dD r):ri aa (bM aa r).1 r (bM aa r).2:=by
 unfold bM;cases q:ml r aa 0 with
 |some i=>
  obtain⟨_,b⟩:=oE h.pl aa 0 i (λx hx=>(R.ok x hx).pl) q;exact⟨R,lK _,by show(0:Int)<=(i:Int);omega,by simpa using b,qT _⟩
 |none=>
  have nm:=oF h.pl aa 0 (λx hx=>(R.ok x hx).pl) q;refine⟨⟨?_,?_⟩,List.prefix_append _ _,by show(0:Int)<=(aa.length:Int);omega,by simp,by simp⟩
  ·intro x hx;rcases pV.mp hx with hx|hx
   ·exact R.ok x hx
   ·rw[jI.mp hx];exact h
  ·rw[List.nodup_append];refine⟨R.nd,by simp,?_⟩;intro a ha b hb e;rw[jI]at hb;subst hb;subst e;exact nm ha
structure ah (pm:List MO) (aa ay:List D):Prop where
 i0:pm[0]?=some (.inst 0 m8)
 i1:pm[1]?=some (.list aa)
 i2:pm[2]?=some (.dict (jg aa 0))
 i4:pm[4]?=some (.list ay)
 i5:∃l,pm[5]?=some (.list l)/\l.length<=ay.length
 i6:∃l,pm[6]?=some (.list l)/\l.length<=ay.length
 rs:cz aa
def gj(pm aA:List MO):Prop:=aA.length=pm.length/\∀j,j≠1->j≠2->aA[j]?=pm[j]?
theorem gj.refl{pm:List MO}:gj pm pm:=⟨rfl,λ_ _ _=>rfl⟩
theorem gj.trans{a b c:List MO}(x:gj a b)(y:gj b c):gj a c:=⟨y.1.trans x.1,λj h1 h2=>(y.2 j h1 h2).trans (x.2 j h1 h2)⟩
theorem wQ:∀(l:List D) (k:Nat),(jg l k).length=l.length
 |[],_=>rfl
 |x::l,k=>by show(jg l (k+1)).length+1=l.length+1;rw[wQ l]
theorem O3{r:D}(h:dD r){aa:List D}(R:cz aa):jm r (jg aa 0)=true:=by
 unfold jm;rw[h.ko,Bool.true_and];cases aa with
 |nil=>rfl
 |cons x l=>
  show Nat.beq (cy x) (cy r)=true;rw[h.kd,(R.ok x (.head _)).kd];rfl
section
variable{pm:List MO}{aa ay:List D}
theorem f4(n:Nat){r:D}(T:ah pm aa ay)(h:dD r)(hl:aa.length<=900000):
  ∃aA,rn (n+1) 4 [.ax 0,.d r] pm []=some (.d (.int (bM aa r).2),aA,[])/\ah aA (bM aa r).1 ay/\gj pm aA:=by
 have k1:=O3 h T.rs;have k2:=Ac (r:=r) aa 0;have P:=cM T.rs h;have Yg:aa.length<=1000000:=();have U0:(jg aa 0).length<=1000000:=by rw[wQ];exact Yg
 unfold bM at P⊢;cases q:ml r aa 0 with
 |some i=>
  rw[q]at k2 P;have k3:=Ad (r:=r) aa 0;rw[q]at k3;refine⟨pm,?_,T,.refl⟩
  dsimp! [T.i2,↑k1,k2,k3]
 |none=>
  rw[q]at k2 P;have k4:=Ae (v:=D.int aa.length) aa 0 q;have k5:=wN aa 0 r;rw[Nat.zero_add]at k5;rw[<-k5]at k4;have n1:1<pm.length:=(gf.mp T.i1).1;have n2:2<pm.length:=(gf.mp T.i2).1;have gt:∀j,j≠1->j≠2->((pm.set 1 (.list (aa++[r]))).set 2 (.dict (jg (aa++[r]) 0)))[j]?=pm[j]?:=λj h1 h2=>by rw[bq (),bq ()]
  refine⟨(pm.set 1 (.list (aa++[r]))).set 2 (.dict (jg (aa++[r]) 0)),?_,⟨?_,?_,?_,?_,?_,?_,P.rs⟩,⟨by simp,gt⟩⟩
  ·have a0:(pm.set 1 (.list (aa++[r])))[0]?=some (.inst 0 m8):=by rw[bq ∅];exact T.i0
   have a2:(pm.set 1 (.list (aa++[r])))[2]?=some (.dict (jg aa 0)):=by rw[bq ∅];exact T.i2
   clear n1 n2;have f:=cT Yg
   dsimp! [T.i2,↑k1,k2,↑f,Dn T.i1 f rfl,a0,Fu a2 k1 (cT U0) k4]
  ·rw[gt 0 ∅ ∅];exact T.i0
  ·rw[bq ∅,dz];simp[n1]
  ·rw[dz];simp[n2]
  ·rw[gt 4 ∅ ∅];exact T.i4
  ·rw[gt 5 ∅ ∅];exact T.i5
  ·rw[gt 6 ∅ ∅];exact T.i6
theorem u9(p:Int):dD (.tup [.int 10,.int p]):=⟨rfl,rfl,rfl⟩
theorem fm(a p:Int):dD (.tup [.int 15,.int a,.int p]):=⟨rfl,rfl,rfl⟩
theorem FI(a:Int):dD (.tup [.int 14,.int a]):=⟨rfl,rfl,rfl⟩
structure rj (pm aA:List MO):Prop where
 len:aA.length=pm.length
 at_:∀j,9<=j->aA[j]?=pm[j]?
theorem gj.new{pm aA:List MO}(k:gj pm aA):rj pm aA:=⟨k.1,λj h=>k.2 j () ()⟩
theorem rj.trans{a b c:List MO}(x:rj a b)(y:rj b c):rj a c:=⟨y.len.trans x.len,λj h=>(y.at_ j h).trans (x.at_ j h)⟩
theorem f5(n:Nat){s:D}{bd:Int}(T:ah pm aa ay)(hl:aa.length<=900000)(hb:ay.length<=900000):
  ∃aA,rn (n+2) 5 [.ax 0,.d s,.d (.int bd),.d (.int (-1))] pm []=some (.d (.int (bM aa (.tup [.int 10,.int ay.length])).2),aA,[])/\ah aA (bM aa (.tup [.int 10,.int ay.length])).1 (ay++[.int bd])/\rj pm aA:=by
 obtain⟨l5,e5,h5⟩:=T.i5;obtain⟨l6,e6,h6⟩:=T.i6;have n4:4<pm.length:=(gf.mp T.i4).1;have n5:5<pm.length:=(gf.mp e5).1;have n6:6<pm.length:=(gf.mp e6).1;have b1:ay.length<=1000000:=();have b5:l5.length<=1000000:=();have b6:l6.length<=1000000:=();have T2:ah (((pm.set 4 (.list (ay++[.int bd]))).set 5 (.list (l5++[.int (-1)]))).set 6 (.list (l6++[s]))) aa (ay++[.int bd]):=by
  refine⟨?_,?_,?_,?_,⟨l5++[.int (-1)],?_,by simp;omega⟩,⟨l6++[s],?_,by simp;omega⟩,T.rs⟩
  ·rw[bq ∅,bq ∅,bq ∅];exact T.i0
  ·rw[bq ∅,bq ∅,bq ∅];exact T.i1
  ·rw[bq ∅,bq ∅,bq ∅];exact T.i2
  ·rw[bq ∅,bq ∅,dz];simp[n4]
  ·rw[bq ∅,dz];simp[n5]
  ·rw[dz];simp[n6]
 obtain⟨aA,e,T',K⟩:=f4 n T2 (u9 ay.length) hl;refine⟨aA,?_,T',⟨by rw[K.1];simp,λj hj=>by rw[K.2 j () (),bq (),bq (),bq ()]⟩⟩;have c0:(pm.set 4 (.list (ay++[.int bd])))[0]?=some (.inst 0 m8):=by rw[bq ∅];exact T.i0
 have c5:(pm.set 4 (.list (ay++[.int bd])))[5]?=some (.list l5):=by rw[bq ∅];exact e5
 have d0:((pm.set 4 (.list (ay++[.int bd]))).set 5 (.list (l5++[.int (-1)])))[0]?=some (.inst 0 m8):=by rw[bq ∅];exact c0
 have d6:((pm.set 4 (.list (ay++[.int bd]))).set 5 (.list (l5++[.int (-1)])))[6]?=some (.list l6):=by rw[bq ∅,bq ∅];exact e6
 have iy:=T2.i0;clear n4 n5 n6;have f:=cT b1
 dsimp! [T.i4,Dn T.i4 f rfl,↑f,e5,c0,c5,Dn c5 (cT b5) rfl,d0,d6,Dn d6 (cT b6) rfl,iy,e]
theorem f45(n:Nat){p:Int}(T:ah pm aa ay)(hl:aa.length<=900000):
  ∃aA,rn (n+2) 45 [.ax 0,.d (.int p)] pm []=some (.d (.int (bM aa (.tup [.int 10,.int p])).2),aA,[])/\ah aA (bM aa (.tup [.int 10,.int p])).1 ay/\gj pm aA:=by
 obtain⟨aA,e,T',K⟩:=f4 n T (u9 p) hl;refine⟨aA,?_,T',K⟩
 dsimp! [e]
end
structure g7 (aa:List D) (x:Int):Prop where
 ex:∃S,aD aa x S/\S.fX=false
 ok:x=5\/16<=x
def bQ(l:List Int):List (D×D):=l.map λx=>(.int x,.int 1)
theorem wU(k:Int):∀l:List Int,fM (.int k) (bQ l)=l.contains k
 |[]=>rfl
 |x::l=>by show((k==x)||fM (.int k) (bQ l))=_;rw[wU k l,List.contains_cons]
theorem wV{k:Int}:∀{l:List Int},k∉l->dput (.int k) (.int 1) (bQ l)=bQ (l++[k])
 |[],_=>rfl
 |x::l,h=>by
  show(if (k==x)=true then _ else _)=_;have:(k==x)=false:=by
   cases q:k==x with
   |false=>rfl
   |true=>exact absurd (by rw[cj q];exact .head _) h
  rw[this,if_neg ∅];show(D.int x,D.int 1)::dput (.int k) (.int 1) (bQ l)=_;rw[wV λz=>h (.tail _ z)];rfl
theorem qC(k:Int)(l:List Int):jm (.int k) (bQ l)=true:=by cases l<;>rfl
theorem set_same{α:Type}{l:List α}{i:Nat}{x:α}(h:l[i]?=some x):l.set i x=l:=by
 apply List.ext_getElem?;intro j;rw[dz];by_cases e:i=j
 ·subst e;rw[if_pos rfl,if_pos (gf.mp h).1];exact h.symm
 ·rw[if_neg e]
theorem iz:∀l:List Int,intsOf (l.map .int)=some l
 |[]=>rfl
 |x::l=>by show ai (ioC x) (intsOf (l.map .int))=_;rw[iz l];rfl
theorem FJ(l:List Int):(bQ l).map (·.1)=l.map D.int:=by simp[bQ]
theorem u_{ae:List Int}(h:∀x∈ae,x=5\/16<=x)(k:Int)(h1:k≠5)(h2:k<16):fM (.int k) (bQ ae)=false:=by
 rw[wU];cases q:ae.contains k with
 |false=>rfl
 |true=>rcases h k (by simpa using q)with e|e<;>omega
section
variable{pm:List MO}{aa ay:List D}
theorem f9(n:Nat){ae:List Int}(h:∀x∈ae,x=5\/16<=x):rn (n+1) 9 [.aI 0] pm [.dict (bQ ae)]=some (.d .none,pm,[.dict (bQ ae)]):=by
 have c:=u_ h
 dsimp! [↑qC _ _,c 8 ∅ ∅,c 14 ∅ ∅]
theorem lR(n:Nat){ae:List Int}(h:∀x∈ae,x=5\/16<=x):rn (n+1) 11 [.aI 0] pm [.dict (bQ ae)]=some (.d (.int (-1)),pm,[.dict (bQ ae)]):=by
 have c:=u_ h;have e:∀k,fM (.int k) (bQ ae)=false->execs (aH n) #[.ite (.cmp .isin 'b' 'a') #[.bad] .nil] [some (.aI 0),some (.d (.int k))] ⟨pm,[.dict (bQ ae)]⟩=some (.next,[some (.aI 0),some (.d (.int k))],⟨pm,[.dict (bQ ae)]⟩):=λk c=>by dsimp! [↑qC _ _,c]
 dsimp! [fJ rfl (e 0 (c 0 ∅ ∅)) (fJ rfl (e 13 (c 13 ∅ ∅)) (fJ rfl (e 1 (c 1 ∅ ∅)) rfl))]
theorem f8(n:Nat){x:Int}{S:Ty}(T:ah pm aa ay)(y:aD aa x S):rn (n+1) 8 [.ax 0,.d (.int x)] pm []=some (.d (.int (-1)),pm,[]):=by cases S<;>dsimp! [rfl]
theorem f10(n:Nat){ae:List Int}{x:Int}(h:∀x∈ae,x=5\/16<=x)(T:ah pm aa ay)(A:g7 aa x):rn (n+2) 10 [.ax 0,.aI 0,.d (.int x)] pm [.dict (bQ ae)]=some (.d (.bool true),pm,[.dict (bQ ae)]):=by
 have c:=u_ h;obtain⟨S,y,nu⟩:=A.ex;have e8:=f8 n T y;have e7:=f7 (pm:=pm) (n:=n) S;have ck:fM (.int S.t7) (bQ ae)=false:=by
  have:S.t7=6\/S.t7=7\/S.t7=-1:=by cases S<;>first|exact .inl rfl|exact .inr (.inl rfl)|exact .inr (.inr rfl)
  rcases this with e|e|e<;>rw[e]<;>exact c _ ∅ ∅
 rw[<-m5 ck]
 dsimp! [e8,e7,↑qC _ _,c (-1) ∅ ∅]
end
def unQ(aa:List D)(x:Int):List Int->List D×Int
 |[]=>(aa,x)
 |y::r=>bM aa (.tup [.int 6,.tup ((x::y::r).map .int)])
def unS(aa:List D):List Int->List D×Int
 |[]=>bM aa (.tup [.int 6,.tup []])
 |x::r=>unQ aa x r
def s_(aa:List D)(ae:List Int):List D×Int:=unS aa (sortI ae)
theorem rl:∀l:List Int,nc (l.map .int)=true
 |[]=>rfl
 |_::l=>rl l
theorem rp(n:Nat):∀l:List Int,uL n (l.map .int)=true
 |[]=>rfl
 |x::l=>by show(iw n (.int x)&&uL n (l.map .int))=true;exact rp n l
theorem Af(l:List Int):dD (.tup [.int 6,.tup (l.map .int)]):=
 ⟨(wk _).trans (rl l),by show(uL 4 (l.map .int)&&true)=true;rw[rp];rfl,rfl⟩
section
variable{pm:List MO}{aa ay:List D}{n:Nat}
theorem f6T{x:Int}{S:Ty}(T:ah pm aa ay)(y:aD aa x S)(h2:x≠2)(nu:S.fX=false):rn (n+1) 6 [.ax 0,.d (.int x)] pm []=some (.d (.tup [.int x]),pm,[]):=by
 have U5:(x==2)=false:=by simpa using h2
 cases S<;>first|(cases nu;done)|dsimp! [U5]
def b12:Ss:=#[.gr 4 (.call 6 #['a','d']) #[.ie 'c' 'e' 1.0]]
theorem O4{a:PV}{g:Nat}(T:ah pm aa ay)(ae:List Int):∀(done:List Int) (tm:List TO) (x3 x4:Option PV),(∀x∈ae,g7 aa x)->tm[g]?=some (.dict (bQ done))->(done++ae).Nodup->done.length+ae.length<=60->
  ∃y3 y4,dO (λl s=>execs (aH (n+1)) b12 l s) (kf 3) (ae.map .int) [some (.ax 0),some a,some (.aI g),x3,x4,none,none,none] ⟨pm,tm⟩=some (.next,[some (.ax 0),some a,some (.aI g),y3,y4,none,none,none],⟨pm,tm.set g (.dict (bQ (done++ae)))⟩):=by
 induction ae with
 |nil=>
  intro done tm x3 x4 _ hg _ _;exact⟨x3,x4,by rw[ej,set_same hg];rfl⟩
 |cons x ae ih=>
  intro done tm x3 x4 hA hg nd hl;obtain⟨S,y,nu⟩:=(hA x (.head _)).ex;have e6:=f6T (n:=n) T y (by rcases(hA x (.head _)).ok with e|e<;>omega) nu;have nx:x∉done:=λh=>by rw[List.nodup_append]at nd;exact nd.2.2 x h x (.head _) rfl
  have k1:=wV nx;have k2:=qC x done;have kl:(bQ done).length<=1000000:=by simp[bQ];omega
  have eb:execs (aH (n+1)) b12 [some (.ax 0),some a,some (.aI g),some (.d (.int x)),x4,none,none,none] ⟨pm,tm⟩=some (.next,[some (.ax 0),some a,some (.aI g),some (.d (.int x)),some (.d (.int x)),none,none,none],⟨pm,tm.set g (.dict (bQ (done++[x])))⟩):=by dsimp! [e6,fJ rfl (by dsimp! [Fv (pm:=pm) hg k2 (cT kl) k1]) rfl]
  have gl:g<tm.length:=(gf.mp hg).1;obtain⟨y3,y4,e⟩:=ih (done++[x]) (tm.set g (.dict (bQ (done++[x])))) (some (.d (.int x))) (some (.d (.int x))) (λz hz=>hA z (.tail _ hz)) (by rw[dz];simp[gl]) (by rw[eI];exact nd) (by simp only[fw,dS,List.length_nil]at hl⊢;omega);refine⟨y3,y4,?_⟩;rw[kg];rw[List.set_set,eI]at e;exact fJ rfl eb e
theorem FK{a:PV}{g:Nat}{ae:List Int}{tm:List TO}{x3 x4:Option PV}{x5:PV}(hi:∀x∈ae,x=5\/16<=x)(T:ah pm aa ay)(hg:tm[g]?=some (.dict (bQ ae))):∀l:List Int,(∀x∈l,g7 aa x)->
  dm (λl s=>cx (aH (n+2)) #[.call 10 #['a','c','h']] l s) (λl s=>eval (aH (n+2)) 'h' l s) 7 (l.map .int) [some (.ax 0),some a,some (.aI g),x3,x4,some x5,none,none] ⟨pm,tm⟩=some (l.map .int,⟨pm,tm⟩)
 |[],_=>rfl
 |x::l,hA=>by
  have O5:=f10 n hi T (hA x (.head _));have ih:=FK (x3:=x3) (x4:=x4) (x5:=x5) (a:=a) hi T hg l λz hz=>hA z (.tail _ hz);have ss:=set_same hg;have et:cx (aH (n+2)) #[.call 10 #['a','c','h']] [some (.ax 0),some a,some (.aI g),x3,x4,some x5,none,some (.d (.int x))] ⟨pm,tm⟩=some (true,⟨pm,tm⟩):=by exact gM (by dsimp! [dn rfl hg rfl O5 ss])
  exact oB et (ak rfl) rfl ih
theorem oG(l:List Int):(sortI l).length=l.length:=(sortI_perm l).length_eq
theorem oH{z:Int}{l:List Int}:z∈sortI l<->z∈l:=(sortI_perm l).mem_iff
theorem O6{aa:List D}{ae:List Int}(R:cz aa):(s_ aa ae).1.length<=aa.length+1:=by
 unfold s_;cases sortI ae with
 |nil=>exact(cM R (Af [])).len
 |cons x r=>
  cases r with
  |nil=>exact qT _
  |cons y r=>exact(cM R (Af (x::y::r))).len
theorem f12(n:Nat){a:PV}{ts tl:List TO}{ae:List Int}{fy:Lock}(T:ah pm aa ay)(hA:∀x∈ae,g7 aa x)(nd:ae.Nodup)(h0:ae≠[])(hl:ae.length<=60)(hr:aa.length<=900000)
  (ho:∀x,dZ ⟨pm,ts++[x]⟩ a=some (ae.map .int,⟨pm,tl++[x]⟩,fy)) (X9:tl.length=ts.length) (hc:∀x,itClose ⟨pm,tl++[x]⟩ fy=⟨pm,ts++[x]⟩):
  ∃aA,rn (n+4) 12 [.ax 0,a] pm ts=some (.d (.int (s_ aa ae).2),aA,ts)/\ah aA (s_ aa ae).1 ay/\gj pm aA:=by
 have hi:∀x∈ae,x=5\/16<=x:=λx hx=>(hA x hx).ok;obtain⟨y3,y4,el⟩:=O4 (n:=n+2) (a:=a) (g:=ts.length) T ae [] (tl++[.dict []]) none none hA (by rw[<-X9];simp[bQ]) (by simpa using nd) (by simp;exact hl);have els:(tl++[TO.dict []]).set ts.length (.dict (bQ ([]++ae)))=tl++[.dict (bQ ae)]:=by rw[<-X9,List.set_append_right _ _ (dA _)];simp
 rw[els]at el;have hg:(ts++[TO.dict (bQ ae)])[ts.length]?=some (.dict (bQ ae)):=by simp
 have ss:=set_same hg;have Ag:=lR (pm:=pm) (n+2) hi;have e9:=f9 (pm:=pm) (n+2) hi;have O7:=oG ae;have f1:(sortI ae).length<=1000000:=();have f2:(sortI ae).length<64:=();have f2':Nat.blt ae.length 64=true:=Nat.blt_eq.mpr ();have cm:=FK (n:=n+1) (a:=a) (g:=ts.length) (ae:=ae) (tm:=ts++[.dict (bQ ae),.dead]) (x3:=y3) (x4:=y4) (x5:= .d (.int (-1))) hi T (by simp) (sortI ae) λx hx=>hA x (oH.mp hx);let L:=(sortI ae).map D.int;have fL:fits L=true:=cT (by rw[eT];exact f1);have b1:builtin .sorted (.aI ts.length) ⟨pm,ts++[.dict (bQ ae)]⟩=some (.aI (ts.length+1),⟨pm,ts++[.dict (bQ ae),.list ((sortI ae).map .int)]⟩):=by have:=Lz (pm:=pm) hg (by rw[FJ,iz]) f2' fL;simpa using this
 have eN:dZ ⟨pm,ts++[.dict (bQ ae),.list ((sortI ae).map .int)]⟩ (.aI (ts.length+1))=some ((sortI ae).map .int,⟨pm,ts++[.dict (bQ ae),.dead]⟩,.aI (ts.length+1) (.list ((sortI ae).map .int))):=by
   have z:(ts++[TO.dict (bQ ae),.list ((sortI ae).map .int)])[ts.length+1]?=some (.list ((sortI ae).map .int)):=by rw[yw ()];simp
   refine(aq z).trans ?_;show some (_,PS.mk _ (List.set _ _ _),_)=_;rw[List.set_append_right _ _ ()];simp
 have b3:itClose ⟨pm,ts++[.dict (bQ ae),.dead]⟩ (.aI (ts.length+1) (.list ((sortI ae).map .int)))=⟨pm,ts++[.dict (bQ ae),.list ((sortI ae).map .int)]⟩:=by unfold itClose;dsimp only;rw[List.set_append_right _ _ ()];simp
 have z:((ts++[TO.dict (bQ ae),.list L])++[.list L])[(ts++[TO.dict (bQ ae),.list L]).length]?=some (.list L):=List.getElem?_concat_length ..;have cA:qX ts ((ts++[TO.dict (bQ ae),.list L])++[.list L])=ts:=by rw[mW,eI,List.take_left]
 cases hs:sortI ae with
 |nil=>
  rw[hs]at O7;cases ae with
  |nil=>exact absurd rfl h0
  |cons=>simp at O7
 |cons x r=>
  have eL:L=(x::r).map D.int:=congrArg (List.map D.int) hs;have eE:(!L.isEmpty)=true:=by rw[eL];rfl
  cases r with
  |nil=>
   have hu:s_ aa ae=(aa,x):=by unfold s_;rw[hs];rfl
   rw[hu];refine⟨pm,Eq.trans (b:=some (.d (.int x),pm,qX ts ((ts++[TO.dict (bQ ae),.list L])++[.list L]))) ?_ (by rw[cA]),T,.refl⟩;have q1:((L.length:Int)==1)=true:=by rw[eL];rfl
   have q2:L[(0:Int).toNat]?=some (.int x):=by rw[eL];rfl
   dsimp! [ho _,el,<-hc _,dn rfl hg rfl Ag ss,dn rfl hg rfl e9 ss,b1,eN,cm,<-b3,↑fL,z,eE,kB eE,q1,q2]
  |cons w r=>
   have hu:s_ aa ae=bM aa (.tup [.int 6,.tup L]):=by unfold s_;rw[eL,hs];rfl
   rw[hu];obtain⟨aA,e,T',K⟩:=f4 (n+2) T (Af (sortI ae)) hr;refine⟨aA,Eq.trans (b:=some (.d (.int (bM aa (.tup [.int 6,.tup L])).2),aA,qX ts ((ts++[TO.dict (bQ ae),.list L])++[.list L]))) ?_ (by rw[cA]),T',K⟩;have lL:L.length<=60:=by show(List.map D.int _).length<=60;rw[eT];omega
   have q1:((L.length:Int)==1)=false:=by rw[eL,beq_eq_false_iff_ne];simp;omega
   have q2:=dU (show¬((400:Int)<(L.length:Int))by omega)
   dsimp! [ho _,el,<-hc _,dn rfl hg rfl Ag ss,dn rfl hg rfl e9 ss,b1,eN,cm,<-b3,↑fL,z,eE,kB eE,q1,q2,UU z fL,e]
end
theorem rq{l:List D}(nd:l.Nodup){i j:Nat}{r:D}(hi:l[i]?=some r)(hj:l[j]?=some r):i=j:=by
 obtain⟨a,ea⟩:=gf.mp hi;obtain⟨b,eb⟩:=gf.mp hj;have P:=List.pairwise_iff_getElem.mp nd;rcases Nat.lt_trichotomy i j with h|h|h
 ·exact absurd (ea.trans eb.symm) (P i j a b h)
 ·exact h
 ·exact absurd (eb.trans ea.symm) (P j i b a h)
theorem rx{aa:List D}{i:Nat}{r:D}(R:cz aa)(h:aa[i]?=some r):bM aa r=(aa,(i:Int)):=by
 have hm:=qO h;have ok:=R.ok r hm;unfold bM;cases q:ml r aa 0 with
 |some j=>
  obtain⟨_,b⟩:=oE ok.pl aa 0 j (λx hx=>(R.ok x hx).pl) q;rw[Nat.sub_zero]at b;rw[rq R.nd h b]
 |none=>exact absurd hm (oF ok.pl aa 0 (λx hx=>(R.ok x hx).pl) q)
theorem va{a b:List D}(h:a<+:b){i:Nat}{r:D}(e:a[i]?=some r):b[i]?=some r:=by obtain⟨t,rfl⟩:=h;rw[mM (gf.mp e).1];exact e
theorem aD.pre{a b:List D}(h:a<+:b){x:Int}{S:Ty}(y:aD a x S):aD b x S:=⟨y.nn,y.lt,va h y.at_⟩
theorem ng{aa:List D}{x:Int}{S:Ty}(R:cz aa)(y:aD aa x S):bM aa (.tup S.row)=(aa,x):=by rw[rx R y.at_,wg y.nn]
theorem ri.ty{aa e_:List D}{S:Ty}{i:Int}(P:ri aa e_ (.tup S.row) i)(hl:aa.length<=800000):aD e_ i S:=by refine⟨P.nn,?_,P.at_⟩;exact ob6 (aW P.len (oh hl)) (gf.mp P.at_).1 P.nn rfl
section
variable{pm:List MO}{aa ay:List D}{h:Nat}
theorem Yh(n:Nat){r:D}(T:ah pm aa ay)(ih:pm[h]?=some (.inst 3 bK))(ok:dD r)(hl:aa.length<=900000):
  ∃aA,rn (n+2) 64 [.ax h,.d r] pm []=some (.d (.int (bM aa r).2),aA,[])/\ah aA (bM aa r).1 ay/\gj pm aA:=by
 obtain⟨aA,e,T',K⟩:=f4 n T ok hl;refine⟨aA,?_,T',K⟩
 dsimp! [e]
theorem O8(n:Nat){o p:Int}(T:ah pm aa ay)(y:aD aa o (.par p))(hl:aa.length<=900000):
  ∃aA,rn (n+2) 45 [.ax 0,.d (.int p)] pm []=some (.d (.int o),aA,[])/\ah aA aa ay/\gj pm aA:=by
 have:=f45 n (p:=p) T hl
 rwa [show(D.tup [.int 10,.int p])= .tup (Ty.row (.par p))from rfl,ng T.rs y]at this
theorem f48(n:Nat){b t ru:Nat}{m:Int}{bR:Bool}{tw:PV}{dp:Int}{s o p:Int}{row:List D}(T:ah pm aa ay)(ib:pm[b]?=some (.inst 2 (fQ b t h ru m bR tw dp)))(hb:9<=b)(h9:9<=h)(ih:pm[h]?=some (.inst 3 bK))(hr:row[1]?=some (.int p))(y:aD aa o (.par p))(hl:aa.length<=900000):
  ∃aA,rn (n+3) 48 [.ax b,.d (.int s),.d (.tup row)] pm []=some (.d (.int (bM aa (.tup [.int 15,.int s,.int o])).2),aA,[])/\ah aA (bM aa (.tup [.int 15,.int s,.int o])).1 ay/\gj pm aA:=by
 obtain⟨fR,e1,T1,K1⟩:=O8 n T y hl;obtain⟨dt,e2,T2,K2⟩:=f4 (n+1) T1 (fm s o) hl;refine⟨dt,?_,T2,K1.trans K2⟩
 dsimp! [ib,hr,e1,e2]
theorem f13(n:Nat){k:Int}{S:Ty}(T:ah pm aa ay)(y:aD aa k S)(nu:S.fX=false)(wo:16<=k)(hl:aa.length<=900000):
  ∃aA,rn (n+5) 13 [.ax 0,.d (.int k),.d (.tup [.int 6,.int 7])] pm []=some (.d (.int k),aA,[])/\ah aA aa ay/\gj pm aA:=by
 have e6:=f6T (n:=n+3) T y () nu;obtain⟨aA,e,T',K⟩:=f12 n (a:= .aI 0) (ts:=[.list [.int k]]) (tl:=[.dead]) (ae:=[k]) (fy:= .aI 0 (.list [.int k])) T (λx hx=>by rw[jI.mp hx];exact⟨⟨S,y,nu⟩,.inr wo⟩) (by simp) (by simp) (by simp) hl (λx=>rfl) rfl (λx=>rfl);have q:s_ aa [k]=(aa,k):=rfl;rw[q]at e T';refine⟨aA,?_,T',K⟩;have k6:((6:Int)==k)=false:=by rw[beq_eq_false_iff_ne];omega
 have k7:((7:Int)==k)=false:=by rw[beq_eq_false_iff_ne];omega
 have q:(!([D.int 6,D.int 7].any λy=>bc y (.int k)))=true:=by show(!(((6:Int)==k)||(((7:Int)==k)||false)))=true;rw[k6,k7];rfl
 have c:test (aH (n+4)) (.cmp .eX 'd' 'c') [some (.ax 0),some (.d (.int k)),some (.d (.tup [.int 6,.int 7])),some (.d (.int k))] ⟨pm,[]⟩=some (!([D.int 6,D.int 7].any λy=>bc y (.int k)),⟨pm,[]⟩):=by dsimp! [rfl]
 rw[q]at c
 dsimp! [e6,oB (gM c) (ak rfl) rfl rfl,dn rfl rfl rfl e rfl]
theorem f47(n:Nat){s p k:Int}(T:ah pm aa ay)(ih:pm[h]?=some (.inst 3 bK))(h9:9<=h)(y:aD aa s (.par p))(z:aD aa k (.ko s))(wo:16<=k)(hl:aa.length<=900000):
  ∃aA,rn (n+6) 47 [.ax h,.d (.int s)] pm []=some (.d (.int k),aA,[])/\ah aA aa ay/\gj pm aA:=by
 obtain⟨fR,e1,T1,K1⟩:=Yh (n+3) T ih (FI s) hl;rw[show(D.tup [.int 14,.int s])= .tup (Ty.row (.ko s))from rfl,ng T.rs z]at e1 T1;obtain⟨dt,e2,T2,K2⟩:=f13 n T1 z rfl wo hl;refine⟨dt,?_,T2,K1.trans K2⟩;have I_:fR[h]?=some (.inst 3 bK):=by rw[K1.2 h () ()];exact ih
 have e1':rn (n+5) 64 [.ax h,.d (.tup [.int 14,.int s])] pm []=some (.d (.int k),fR,[]):=e1
 dsimp! [e1',e2]
end
def dT:D->List D
 | .tup l=>l
 |_=>[]
def dI:D->Int
 | .int i=>i
 |_=>0
def td(n:Int)(r:D):Option D:=match dT r with
 |a::b::_=>if dI a==n then some b else none
 |_=>none
def subQ(aa:List D)(w x:Int):Option D->List D×Int
 |some o=>bM aa (.tup [.int 15,.int (dI o),.int w])
 |none=>(aa,x)
def ji(aa:List D)(w:Int)(x:Int):List D×Int:=match aa[x.toNat]? with
 |some r=>subQ aa w x (td 15 r)
 |none=>(aa,x)
theorem vb{aa:List D}{w x:Int}{r:D}(e:aa[x.toNat]?=some r):ji aa w x=subQ aa w x (td 15 r):=by unfold ji;rw[e]
def fA(F:List D->Int->List D×Int):List D->List Int->List D×List Int
 |aa,[]=>(aa,[])
 |aa,x::l=>((fA F (F aa x).1 l).1,(F aa x).2::(fA F (F aa x).1 l).2)
def subU(aa:List D)(w t:Int):Option (List Int)->List D×Int
 |some ae=>s_ (fA (λr x=>ji r w x) aa ae).1 (fA (λr x=>ji r w x) aa ae).2
 |none=>(aa,t)
def Vb(aa:List D)(w t:Int):Option D->List D×Int
 |some l=>subU aa w t (intsOf (dT l))
 |none=>ji aa w t
def jo(aa:List D)(w:Int)(t:Int):List D×Int:=match aa[t.toNat]? with
 |some r=>Vb aa w t (td 6 r)
 |none=>ji aa w t
theorem qD{aa:List D}{w t:Int}{r:D}(e:aa[t.toNat]?=some r):jo aa w t=Vb aa w t (td 6 r):=by unfold jo;rw[e]
inductive nh (aa:List D) (pid:Int) (x:Int):Prop
 |unit (S:Ty) (y:aD aa x S) (v:S.val=true)
 |idx (o po p:Int) (y:aD aa x (.idx o p)) (yo:aD aa o (.par po)) (ne:po≠pid) (yp:aD aa p (.par pid))
theorem nh.pre{a b:List D}(h:a<+:b){pid x:Int}:nh a pid x->nh b pid x
 | .unit S y v=> .unit S (y.pre h) v
 | .idx o po p y yo ne yp=> .idx o po p (y.pre h) (yo.pre h) ne (yp.pre h)
section
variable{aa ay:List D}{h N:Nat}{w pid:Int}
theorem O9{n:Nat}{m:TO}{a:D}{R0:List D}{F:List D->Int->List D×Int}(hm:m= .dict [(.int pid,.int w)])(ae:List Int):∀(pm:List MO) (aa:List D),
  (∀x∈ae,∀pm aa,ah pm aa ay->pm[h]?=some (.inst 3 bK)->R0<+:aa->aa.length<=N->∃aA,rn n 67 [.ax h,.d (.int x),.aI 0] pm [m]=some (.d (.int (F aa x).2),aA,[m])/\ah aA (F aa x).1 ay/\gj pm aA/\aa<+:(F aa x).1/\(F aa x).1.length<=aa.length+1)->
  9<=h->ah pm aa ay->pm[h]?=some (.inst 3 bK)->R0<+:aa->aa.length+ae.length<=N->
  ∃aA,dm (λl s=>cx (aH n) .nil l s) (λl s=>eval (aH n) (.call 67 #['a','d','c']) l s) 3 (ae.map .int) [some (.ax h),some (.d a),some (.aI 0),none] ⟨pm,[m]⟩=some ((fA F aa ae).2.map .int,⟨aA,[m]⟩)/\
   ah aA (fA F aa ae).1 ay/\gj pm aA/\aa<+:(fA F aa ae).1/\(fA F aa ae).1.length<=aa.length+ae.length:=by
 induction ae with
 |nil=>
  intro pm aa _ _ T _ _ _;exact⟨pm,rfl,T,.refl,lK _,dA _⟩
 |cons x ae ihh=>
  intro pm aa hF h9 T ih hR hl;have LA:aa.length+ae.length+1<=N:=hl;obtain⟨fR,e1,T1,K1,p1,l1⟩:=hF x (.head _) pm aa T ih hR ();obtain⟨dt,e2,T2,K2,p2,l2⟩:=ihh fR (F aa x).1 (λz hz=>hF z (.tail _ hz)) h9 T1 (by rw[K1.2 h () ()];exact ih) (hR.trans p1) (aW (wi l1 _) (aW (lM (uB _ 1 _)) LA));refine⟨dt,?_,T2,K1.trans K2,p1.trans p2,by simp only[fw];show(fA F (F aa x).1 ae).1.length<=_;exact aW l2 (aW (wi l1 _) (lM (uB _ 1 _)))⟩;subst hm;have ev:eval (aH n) (.call 67 #['a','d','c']) [some (.ax h),some (.d a),some (.aI 0),some (.d (.int x))] ⟨pm,[.dict [(.int pid,.int w)]]⟩=some (.d (.int (F aa x).2),⟨fR,[.dict [(.int pid,.int w)]]⟩):=by dsimp! [dn rfl rfl rfl e1 rfl]
  exact oB rfl ev rfl e2
theorem f65{n:Nat}{R0:List D}{F:List D->Int->List D×Int}{ae:List Int}{pm:List MO}(hF:∀x∈ae,∀pm aa,ah pm aa ay->pm[h]?=some (.inst 3 bK)->R0<+:aa->aa.length<=N->∃aA,rn n 67 [.ax h,.d (.int x),.aI 0] pm [.dict [(.int pid,.int w)]]=some (.d (.int (F aa x).2),aA,[.dict [(.int pid,.int w)]])/\ah aA (F aa x).1 ay/\gj pm aA/\aa<+:(F aa x).1/\(F aa x).1.length<=aa.length+1)
  (h9:9<=h) (T:ah pm aa ay) (ih:pm[h]?=some (.inst 3 bK)) (hR:R0<+:aa) (hl:aa.length+ae.length<=N) (hi:ae.length<=60):
  ∃aA,rn (n+1) 65 [.ax h,.d (.tup (ae.map .int)),.aI 0] pm [.dict [(.int pid,.int w)]]=some (.d (.tup ((fA F aa ae).2.map .int)),aA,[.dict [(.int pid,.int w)]])/\
   ah aA (fA F aa ae).1 ay/\gj pm aA/\aa<+:(fA F aa ae).1/\(fA F aa ae).1.length<=aa.length+ae.length:=by
 obtain⟨aA,e,X⟩:=O9 (a:= .tup (ae.map .int)) rfl ae pm aa hF h9 T ih hR hl;refine⟨aA,?_,X⟩;have ll:∀(ae:List Int) (aa:List D),(fA F aa ae).2.length=ae.length:=λae=>by
  induction ae with
  |nil=>intro _;rfl
  |cons x l ih=>intro aa;show(fA F _ l).2.length+1=_;rw[ih];rfl
 have l1:(fA F aa ae).2.length<=1000000:=by rw[ll];omega
 have f:fits ((fA F aa ae).2.map D.int)=true:=cT (by rw[eT];exact l1)
 dsimp! [e,↑f,UU (n:=1) rfl f]
theorem Vc{n:Nat}{pm:List MO}{x p:Int}(T:ah pm aa ay)(ih:pm[h]?=some (.inst 3 bK))(y:aD aa x (.par p)):
  rn (n+1) 67 [.ax h,.d (.int x),.aI 0] pm [.dict [(.int pid,.int w)]]=some (.d (.int (if p=pid then w else x)),pm,[.dict [(.int pid,.int w)]]):=by
 have nn:¬(x<0):=by have:=y.nn;omega
 have g:hN 2 (.aI 0) [.d (.int p),.d (.int x)] ⟨pm,[.dict [(.int pid,.int w)]]⟩=some (.d (.int (if p=pid then w else x)),⟨pm,[.dict [(.int pid,.int w)]]⟩):=by
  show some (PV.d ((if (p==pid)=true then some _ else none).getD _),_)=_;by_cases e:p=pid
  ·rw[if_pos e,if_pos (fg.mpr e)];rfl
  ·rw[if_neg e,if_neg (mt fg.mp e)];rfl
 dsimp! [dU nn,<-g]
theorem f66u{n:Nat}{pm:List MO}{x:Int}{S:Ty}(v:S.val=true):
  rn (n+1) 66 [.ax h,.d (.int x),.d (.tup S.row),.aI 0] pm [.dict [(.int pid,.int w)]]=some (.d (.int x),pm,[.dict [(.int pid,.int w)]]):=by
 cases S<;>first|(cases v;done)|dsimp! [rfl]
theorem f67u{n:Nat}{pm:List MO}{x:Int}{S:Ty}(T:ah pm aa ay)(ih:pm[h]?=some (.inst 3 bK))(y:aD aa x S)(v:S.val=true):
  rn (n+2) 67 [.ax h,.d (.int x),.aI 0] pm [.dict [(.int pid,.int w)]]=some (.d (.int x),pm,[.dict [(.int pid,.int w)]]):=by
 have nn:¬(x<0):=by have:=y.nn;omega
 have e:=f66u (h:=h) (w:=w) (pid:=pid) (n:=n) (pm:=pm) (x:=x) v;cases S<;>first|(cases v;done)|dsimp! [dU nn,dn rfl rfl rfl e rfl]
theorem f66i{n:Nat}{pm:List MO}{x o po p:Int}(h9:9<=h)(T:ah pm aa ay)(ih:pm[h]?=some (.inst 3 bK))(yo:aD aa o (.par po))(ne:po≠pid)(yp:aD aa p (.par pid))(hl:aa.length<=899980):
  ∃aA,rn (n+3) 66 [.ax h,.d (.int x),.d (.tup [.int 15,.int o,.int p]),.aI 0] pm [.dict [(.int pid,.int w)]]=some (.d (.int (bM aa (.tup [.int 15,.int o,.int w])).2),aA,[.dict [(.int pid,.int w)]])/\
   ah aA (bM aa (.tup [.int 15,.int o,.int w])).1 ay/\gj pm aA:=by
 obtain⟨fR,e1,T1,K1,_,_⟩:=f65 (n:=n+1) (h:=h) (w:=w) (pid:=pid) (ay:=ay) (R0:=aa) (N:=899982) (F:=λr x=>(r,if x=o then o else w)) (ae:=[o,p]) (pm:=pm) (aa:=aa)
  (λx hx pm e_ T ih hR hl=>by
   refine⟨pm,?_,T,.refl,lK _,qT _⟩;have hx:x=o\/x=p:=by simpa using hx
   rcases hx with e|e
   ·subst e;have:=Vc (w:=w) (pid:=pid) (n:=n) T ih (yo.pre hR);rw[if_neg ne]at this;rw[this];simp
   ·subst e;have:=Vc (w:=w) (pid:=pid) (n:=n) T ih (yp.pre hR);rw[if_pos rfl]at this;have no:x≠o:=λe=>by subst e;have a:=yo.at_;rw[yp.at_]at a;exact ne (D.int.inj (List.cons.inj (List.cons.inj (D.tup.inj (fh a))).2).1).symm
    rw[this];simp[no])
  h9 T ih (lK _) (by simp;omega) (by simp)
 have no:p≠o:=λe=>by subst e;have a:=yo.at_;rw[yp.at_]at a;exact ne (D.int.inj (List.cons.inj (List.cons.inj (D.tup.inj (fh a))).2).1).symm
 have q:fA (λr x=>(r,if x=o then o else w)) aa [o,p]=(aa,[o,w]):=by show(aa,[if o=o then o else w,if p=o then o else w])=_;rw[if_pos rfl,if_neg no]
 rw[q]at e1 T1;have I_:fR[h]?=some (.inst 3 bK):=by rw[K1.2 h () ()];exact ih
 obtain⟨dt,e2,T2,K2⟩:=Yh n T1 I_ (fm o w) (by show aa.length<=_;omega);refine⟨dt,?_,T2,K1.trans K2⟩
 dsimp! [dn rfl rfl rfl e1 rfl,e2]
theorem f67i{n:Nat}{pm:List MO}{x o po p:Int}(h9:9<=h)(T:ah pm aa ay)(ih:pm[h]?=some (.inst 3 bK))(y:aD aa x (.idx o p))(yo:aD aa o (.par po))(ne:po≠pid)(yp:aD aa p (.par pid))(hl:aa.length<=899980):
  ∃aA,rn (n+4) 67 [.ax h,.d (.int x),.aI 0] pm [.dict [(.int pid,.int w)]]=some (.d (.int (bM aa (.tup [.int 15,.int o,.int w])).2),aA,[.dict [(.int pid,.int w)]])/\
   ah aA (bM aa (.tup [.int 15,.int o,.int w])).1 ay/\gj pm aA:=by
 obtain⟨aA,e,X⟩:=f66i (x:=x) (w:=w) (n:=n) h9 T ih yo ne yp hl;refine⟨aA,?_,X⟩;have nn:¬(x<0):=by have:=y.nn;omega
 dsimp! [dU nn,dn rfl rfl rfl e rfl]
theorem Vd{n:Nat}{pm:List MO}{x:Int}(h9:9<=h)(T:ah pm aa ay)(ih:pm[h]?=some (.inst 3 bK))(y:nh aa pid x)(hl:aa.length<=899980):
  ∃aA,rn (n+4) 67 [.ax h,.d (.int x),.aI 0] pm [.dict [(.int pid,.int w)]]=some (.d (.int (ji aa w x).2),aA,[.dict [(.int pid,.int w)]])/\
   ah aA (ji aa w x).1 ay/\gj pm aA/\aa<+:(ji aa w x).1/\(ji aa w x).1.length<=aa.length+1:=by
 cases y with
 |unit S y v=>
  have q:ji aa w x=(aa,x):=(vb y.at_).trans (by cases S<;>first|exact noB v|rfl);rw[q];exact⟨pm,f67u (n:=n+2) T ih y v,T,.refl,lK _,qT _⟩
 |idx o po p y yo ne yp=>
  have q:ji aa w x=bM aa (.tup [.int 15,.int o,.int w]):=vb y.at_;rw[q];obtain⟨aA,e,T',K⟩:=f67i (w:=w) (n:=n) h9 T ih y yo ne yp hl;have P:=cM T.rs (fm o w);exact⟨aA,e,T',K,P.pre,P.len⟩
end
section
variable{aa ay:List D}{h:Nat}{w pid:Int}
abbrev iB (aa:List D) (w:Int) (ae:List Int):List D×List Int:=fA (λr x=>ji r w x) aa ae
inductive Ja (aa:List D) (pid w:Int) (t:Int):Prop
 |atom (y:nh aa pid t)
 |un (ae:List Int) (y:aD aa t (.un ae)) (hs:∀x∈ae,nh aa pid x) (hA:∀x∈(iB aa w ae).2,g7 (iB aa w ae).1 x) (nd:(iB aa w ae).2.Nodup) (h0:(iB aa w ae).2≠[]) (hl:ae.length<=4)
theorem tK{F:List D->Int->List D×Int}:∀(ae:List Int) (aa:List D),(fA F aa ae).2.length=ae.length
 |[],_=>rfl
 |x::l,aa=>by show(fA F _ l).2.length+1=_;rw[tK l];rfl
theorem f67t{n:Nat}{pm:List MO}{t:Int}(h9:9<=h)(T:ah pm aa ay)(ih:pm[h]?=some (.inst 3 bK))(y:Ja aa pid w t)(hl:aa.length<=899900):
  ∃aA,rn (n+6) 67 [.ax h,.d (.int t),.aI 0] pm [.dict [(.int pid,.int w)]]=some (.d (.int (jo aa w t).2),aA,[.dict [(.int pid,.int w)]])/\
   ah aA (jo aa w t).1 ay/\gj pm aA:=by
 cases y with
 |atom y=>
  have q:jo aa w t=ji aa w t:=by
   cases y with
   |unit S y v=>exact(qD y.at_).trans (by cases S<;>first|exact noB v|rfl)
   |idx o po p y _ _ _=>exact qD y.at_
  rw[q];obtain⟨aA,e,T',K,_⟩:=Vd (w:=w) (n:=n+2) h9 T ih y ();exact⟨aA,e,T',K⟩
 |un ae y hs hA nd h0 hn=>
  have q:jo aa w t=s_ (iB aa w ae).1 (iB aa w ae).2:=by unfold jo;rw[y.at_];show(match intsOf (ae.map .int)with|some ae=>_|none=>_)=_;rw[iz]
  rw[q];obtain⟨fR,e1,T1,K1,p1,l1⟩:=f65 (n:=n+4) (h:=h) (w:=w) (pid:=pid) (ay:=ay) (R0:=aa) (N:=899980) (F:=λr x=>ji r w x) (ae:=ae) (pm:=pm) (aa:=aa)
   (λx hx pm e_ T ih hR LA=>by exact Vd (n:=n) h9 T ih ((hs x hx).pre hR) LA)
   h9 T ih (lK _) () ()
  have fl:(iB aa w ae).2.length=ae.length:=tK (F:=λr x=>ji r w x) ae aa;have l1:(iB aa w ae).1.length<=aa.length+ae.length:=l1;obtain⟨dt,e2,T2,K2⟩:=f12 (n+1) (a:= .d (.tup ((iB aa w ae).2.map .int))) (ts:=[]) (tl:=[]) (ae:=(iB aa w ae).2) (fy:= .none) T1 hA nd h0 () ()
   (λx=>rfl) rfl (λx=>rfl)
  refine⟨dt,?_,T2,K1.trans K2⟩;have I_:fR[h]?=some (.inst 3 bK):=by rw[K1.2 h () ()];exact ih
  have nn:¬(t<0):=by have:=y.nn;omega
  dsimp! [dU nn,dn rfl rfl rfl e1 rfl,e2]
theorem f69{n:Nat}{pm:List MO}{t:Int}(h9:9<=h)(T:ah pm aa ay)(ih:pm[h]?=some (.inst 3 bK))(y:Ja aa pid w t)(hl:aa.length<=899900):
  ∃aA,rn (n+7) 69 [.ax h,.d (.int t),.aI 0] pm [.dict [(.int pid,.int w)]]=some (.d (.int (jo aa w t).2),aA,[.dict [(.int pid,.int w)]])/\
   ah aA (jo aa w t).1 ay/\gj pm aA:=by
 obtain⟨aA,e,X⟩:=f67t (n:=n) h9 T ih y hl;refine⟨aA,?_,X⟩
 dsimp! [dn rfl rfl rfl e rfl]
end
section
variable{X:Cx}{ls:Ls}{σ aj aM bJ:PS}
end
structure az where
 key:Nat
 opt:Nat
 ro:Nat
 mask:Nat
 mem:Bool
 deriving DecidableEq,Inhabited
def az.d(t:az):D:= .tup [.int t.key,.int t.opt,.int t.ro,.int t.mask,.bool t.mem]
def fT:List Int:=[18,23,19,24,25,22,20]
def bit(m i:Nat):Bool:=m/2^i%2==1
def fY:Nat->D
 |0=> .tup [.int 3,.str [97],.int 0]
 |1=> .tup [.int 4,.int 1,.int 0]
 |_=> .tup [.int 1,.str [110,117,108,108]]
def bh(m:Nat):List Nat->List D
 |[]=>[]
 |i::l=>if bit m i then fY i::bh m l else bh m l
theorem lB{m i:Nat}{l:List Nat}:bh m (i::l)=if bit m i then fY i::bh m l else bh m l:=rfl
theorem gB(m:Nat):∀l,bh m l=(l.filter λi=>bit m i).map fY
 |[]=>rfl
 |i::l=>by show(if bit m i then fY i::bh m l else bh m l)=_;rw[List.filter_cons,gB m l];cases bit m i<;>rfl
def Jb(r:D):Nat:=(dI ((dT r).headD .none)).toNat
theorem FL{i:Nat}(h:i∈[0,1,2]):i<3:=(by decide:∀i∈[0,1,2],i<3) i h
theorem wW{i j:Nat}(hi:i<3)(hj:j<3)(e:fY i=fY j):i=j:=by rcases oa3 hi with h|h|h<;>rcases oa3 hj with g|g|g<;>subst h<;>subst g<;>first|rfl|exact ncf Jb e rfl
def bj:List D->List D->List D×List Int
 |aa,[]=>(aa,[])
 |aa,r::l=>((bj (bM aa r).1 l).1,(bM aa r).2::(bj (bM aa r).1 l).2)
def bD(aa:List D)(pid:Nat):List D×Int:=bM aa (.tup [.int 10,.int pid])
def af(t:az)(own:Int):List D:=bh t.mask [0,1,2]++(if t.mem then[.tup [.int 15,.int (if t.key=1 then 17 else 16),.int own]]else[])
def vd(pid kn tp opt ro:Int):D:= .tup [.int 17,.int pid,.int kn,.int (-1),.int tp,.int opt,.int ro]
def pF(aa:List D)(pid:Nat)(t:az):List D×Int:=
 s_ (bj (bD aa pid).1 (af t (bD aa pid).2)).1 (bj (bD aa pid).1 (af t (bD aa pid).2)).2
def wX(aa:List D)(pid:Nat)(t:az):List D×Int:=
 bM (pF aa pid t).1 (vd pid (fT[t.key]?.getD 0) (pF aa pid t).2 t.opt t.ro)
theorem FN(pid kn tp opt ro:Int):dD (vd pid kn tp opt ro):=⟨rfl,rfl,rfl⟩
theorem O_:∀i,dD (fY i)
 |0=>⟨rfl,rfl,rfl⟩
 |1=>⟨rfl,rfl,rfl⟩
 |_+2=>⟨rfl,rfl,rfl⟩
theorem jQ{m:Nat}:∀l,∀r∈bh m l,dD r
 |[],_,h=>nomatch h
 |i::l,r,h=>by
  rw[lB]at h;split at h
  ·rcases dJ.mp h with e|h
   ·rw[e];exact O_ i
   ·exact jQ l r h
  ·exact jQ l r h
theorem kG{m:Nat}:∀l,(bh m l).length<=l.length
 |[]=>dA _
 |i::l=>by rw[lB];have:=kG (m:=m) l;split<;>simp only[fw]<;>omega
theorem jq:∀(a b:List D) (aa:List D),bj aa (a++b)=((bj (bj aa a).1 b).1,(bj aa a).2++(bj (bj aa a).1 b).2)
 |[],b,aa=>rfl
 |r::a,b,aa=>by show((bj (bM aa r).1 (a++b)).1,(bM aa r).2::(bj (bM aa r).1 (a++b)).2)=_;rw[jq a b];rfl
theorem iC:∀(l:List D) (aa:List D),cz aa->(∀r∈l,dD r)->cz (bj aa l).1/\aa<+:(bj aa l).1/\(bj aa l).1.length<=aa.length+l.length
 |[],aa,R,_=>⟨R,lK _,dA _⟩
 |r::l,aa,R,h=>by have P:=cM R (h r (.head _));obtain⟨a,b,c⟩:=iC l (bM aa r).1 P.rs λx hx=>h x (.tail _ hx);refine⟨a,P.pre.trans b,?_⟩;have:=P.len;show(bj (bM aa r).1 l).1.length<=_;simp only[fw];omega
section
variable{aa ay:List D}
theorem f73(n:Nat){pm:List MO}:rn (n+1) 73 [] pm []=some (.d (.lst [fY 0,fY 1,fY 2]),pm,[]):=by dsimp! [rfl]
def Yi:Es:=#[.cmp .eq (.bin .mod (.bin .fdiv 'h' (.bin .pow 2.0 'l')) 2.0) 1.0]
def Yj:E:= .aR 'a' 3 #[.sub (.call 73 .nil) 'l']
theorem Ve(n m i:Nat)(hi:i<3){x0 x1 x2 x3 x4 x5 x6 x8 x9 nj:Option PV}{σ:PS}:cx (aH n) Yi [x0,x1,x2,x3,x4,x5,x6,some (.d (.int m)),x8,x9,nj,some (.d (.int i))] σ=some (bit m i,σ):=by
 have h1:Int.fdiv (m:Int) 1=((m/1:Nat):Int):=by simp
 have h2:Int.fdiv (m:Int) 2=((m/2:Nat):Int):=by rw[Int.fdiv_eq_ediv_of_nonneg _ ∅];rfl
 have h4:Int.fdiv (m:Int) 4=((m/4:Nat):Int):=by rw[Int.fdiv_eq_ediv_of_nonneg _ ∅];rfl
 have hm:∀k:Nat,Int.fmod (k:Int) 2=((k%2:Nat):Int):=λk=>by rw[Int.fmod_eq_emod_of_nonneg _ ∅];rfl
 have hb:∀k:Nat,(((k%2:Nat):Int)==1)=(k%2==1):=λk=>by rcases Nat.mod_two_eq_zero_or_one k with h|h<;>rw[h]<;>rfl
 have f:i=0\/i=1\/i=2:=();have g0:(((m:Int)%2)==1)=(m%2==1):=hb m;have g1:((((m:Int)/2).fmod 2)==1)=(m/2%2==1):=by rw[<-hb (m/2),<-hm (m/2)];rfl
 have g2:((((m:Int)/4).fmod 2)==1)=(m/4%2==1):=by rw[<-hb (m/4),<-hm (m/4)];rfl
 unfold bit;rcases f with rfl|rfl|rfl
 ·refine gM (Eq.trans (b:=some ((((m/1:Nat):Int).fmod 2)==1,σ)) ?_ (by rw[hm,hb]))
  dsimp! [<-(congrArg some h1:arith .fdiv m 1=_)]
 ·refine gM (Eq.trans (b:=some ((((m/2:Nat):Int).fmod 2)==1,σ)) ?_ (by rw[hm,hb]))
  dsimp! [<-(congrArg some h2:arith .fdiv m 2=_)]
 ·refine gM (Eq.trans (b:=some ((((m/4:Nat):Int).fmod 2)==1,σ)) ?_ (by rw[hm,hb]))
  dsimp! [<-(congrArg some h4:arith .fdiv m 4=_)]
theorem Pa(n i:Nat)(hi:i<3){pm:List MO}{tm:List TO}(T:ah pm aa ay)(hl:aa.length<=800000){x1 x2 x3 x4 x5 x6 x7 x8 x9 nj:Option PV}:
  ∃aA,eval (aH (n+1)) Yj [some (.ax 0),x1,x2,x3,x4,x5,x6,x7,x8,x9,nj,some (.d (.int i))] ⟨pm,tm⟩=some (.d (.int (bM aa (fY i)).2),⟨aA,tm⟩)/\ah aA (bM aa (fY i)).1 ay/\gj pm aA:=by
 obtain⟨aA,e,X⟩:=f4 n T (O_ i) ();refine⟨aA,?_,X⟩;have e73:=f73 n (pm:=pm);have f:i=0\/i=1\/i=2:=();rcases f with rfl|rfl|rfl<;>dsimp! [e73,e]
theorem Pb{n m:Nat}{tm:List TO}{x1 x2 x3 x4 x5 x6 x8 x9 nj:Option PV}(is:List Nat):∀(pm:List MO) (aa:List D),(∀i∈is,i<3)->ah pm aa ay->aa.length+is.length<=800000->
  ∃aA,dm (λl s=>cx (aH (n+1)) Yi l s) (λl s=>eval (aH (n+1)) Yj l s) 11 (is.map λ(i:Nat)=>D.int i) [some (.ax 0),x1,x2,x3,x4,x5,x6,some (.d (.int m)),x8,x9,nj,none] ⟨pm,tm⟩=some ((bj aa (bh m is)).2.map .int,⟨aA,tm⟩)/\
   ah aA (bj aa (bh m is)).1 ay/\gj pm aA:=by
 induction is with
 |nil=>
  intro pm aa _ T _;exact⟨pm,rfl,T,.refl⟩
 |cons i is ih=>
  intro pm aa hi T hl;have LA:aa.length+is.length+1<=800000:=by simp only[fw]at hl;omega
  have eb:=Ve (n+1) m i (hi i (.head _)) (x0:=some (.ax 0)) (x1:=x1) (x2:=x2) (x3:=x3) (x4:=x4) (x5:=x5) (x6:=x6) (x8:=x8) (x9:=x9) (nj:=nj) (σ:=⟨pm,tm⟩);rw[kg];rw[lB];cases q:bit m i with
  |false=>
   rw[if_neg ∅];rw[q]at eb;obtain⟨aA,e,X⟩:=ih pm aa (λj hj=>hi j (.tail _ hj)) T ();exact⟨aA,Ly eb e,X⟩
  |true=>
   rw[if_pos rfl];rw[q]at eb;obtain⟨fR,e1,T1,K1⟩:=Pa n i (hi i (.head _)) T () (tm:=tm) (x1:=x1) (x2:=x2) (x3:=x3) (x4:=x4) (x5:=x5) (x6:=x6) (x7:=some (.d (.int m))) (x8:=x8) (x9:=x9) (nj:=nj);have P:=cM T.rs (O_ i);obtain⟨dt,e2,T2,K2⟩:=ih fR (bM aa (fY i)).1 (λj hj=>hi j (.tail _ hj)) T1 (by have:=P.len;omega);exact⟨dt,oB eb e1 rfl e2,T2,K1.trans K2⟩
theorem jr:∀(l:List D) (aa:List D),(bj aa l).2.length=l.length
 |[],_=>rfl
 |r::l,aa=>by show(bj _ l).2.length+1=_;rw[jr l];rfl
theorem FO{k:Nat}(hk:k<7):(fT.map D.int)[k]?=some (.int (fT[k]?.getD 0)):=by have:k=0\/k=1\/k=2\/k=3\/k=4\/k=5\/k=6:=();rcases this with h|h|h|h|h|h|h<;>rw[h]<;>rfl
theorem Dt{k:Nat}(h:k<1000):small (k:Int)=true:=oA.mpr (by unfold big;omega)
end
theorem jj{α:Type}{a b:α}:(if false=true then a else b)=b:=rfl
theorem lV{α:Type}{a b:α}:(if true=true then a else b)=a:=rfl
theorem Du{t:az}{o:Int}(q:t.mem=false):af t o=bh t.mask [0,1,2]:=by unfold af;rw[q,jj,ej]
theorem Dv{t:az}{o:Int}(q:t.mem=true):af t o=bh t.mask [0,1,2]++[.tup [.int 15,.int (if t.key=1 then 17 else 16),.int o]]:=by unfold af;rw[q,lV]
section
variable{aa ay:List D}
theorem Pc{n:Nat}{t:az}(q:t.mem=false){pm fR dt rg EM:List MO}{kl U:List D}{k o j r:Int}{pid:Nat}(ks:small (t.key:Int)=true)(kn:decide ((0:Int)<=t.key)=true)(ve:kl[t.key]?=some (.int k))(e1:rn (n+5) 5 [.ax 0,.d (.str [80]),.d (.int k),.d (.int (-1))] pm []=some (.d (.int o),fR,[]))
  (e2:dm (λl s=>cx (aH (n+5)) Yi l s) (λl s=>eval (aH (n+5)) Yj l s) 11 [.int 0,.int 1,.int 2] [some (.ax 0),some (.aI 0),some (.d (.tup [.int 16,.int 17])),some (.d t.d),some (.d (.int t.key)),some (.d (.int t.opt)),some (.d (.int t.ro)),some (.d (.int t.mask)),some (.d (.bool t.mem)),some (.d (.int o)),none,none] ⟨fR,[.list kl]⟩=some (U,⟨dt,[.list kl]⟩)) (fU:fits U=true)
  {R3:List D} (i0:dt[0]?=some (.inst 0 m8)) (i1:dt[1]?=some (.list R3)) (y:aD R3 o (.par pid)) (e4:rn (n+5) 12 [.ax 0,.aI 0] dt [.list U]=some (.d (.int j),rg,[.list U])) (e5:rn (n+5) 4 [.ax 0,.d (vd pid k j t.opt t.ro)] rg []=some (.d (.int r),EM,[])):
  rn (n+6) 78 [.ax 0,.aI 0,.d (.tup [.int 16,.int 17]),.d t.d] pm [.list kl]=some (.d (.int r),EM,[.list kl]):=by
 dsimp! [↑ks,↑kn,ve,e1,e2,↑fU,q,i0,i1,dn rfl rfl rfl e4 rfl,e5]
theorem Pd{n:Nat}{t:az}(q:t.mem=true){pm fR dt iZ rg EM:List MO}{kl U L:List D}{k o i j r:Int}{pid:Nat}(ks:small (t.key:Int)=true)(kn:decide ((0:Int)<=t.key)=true)(ve:kl[t.key]?=some (.int k))(e1:rn (n+5) 5 [.ax 0,.d (.str [80]),.d (.int k),.d (.int (-1))] pm []=some (.d (.int o),fR,[]))
  (e2:dm (λl s=>cx (aH (n+5)) Yi l s) (λl s=>eval (aH (n+5)) Yj l s) 11 [.int 0,.int 1,.int 2] [some (.ax 0),some (.aI 0),some (.d (.tup [.int 16,.int 17])),some (.d t.d),some (.d (.int t.key)),some (.d (.int t.opt)),some (.d (.int t.ro)),some (.d (.int t.mask)),some (.d (.bool t.mem)),some (.d (.int o)),none,none] ⟨fR,[.list kl]⟩=some (U,⟨dt,[.list kl]⟩)) (fU:fits U=true) (el:U++[.int i]=L) (z0:dt[0]?=some (.inst 0 m8))
  (m1:rn (n+5) 4 [.ax 0,.d (.tup [.int 15,.int (if t.key=1 then 17 else 16),.int o])] dt []=some (.d (.int i),iZ,[])) {R3:List D} (i0:iZ[0]?=some (.inst 0 m8)) (i1:iZ[1]?=some (.list R3)) (y:aD R3 o (.par pid)) (e4:rn (n+5) 12 [.ax 0,.aI 0] iZ [.list L]=some (.d (.int j),rg,[.list L])) (e5:rn (n+5) 4 [.ax 0,.d (vd pid k j t.opt t.ro)] rg []=some (.d (.int r),EM,[])):
  rn (n+6) 78 [.ax 0,.aI 0,.d (.tup [.int 16,.int 17]),.d t.d] pm [.list kl]=some (.d (.int r),EM,[.list kl]):=by
 by_cases h:t.key=1
 ·rw[if_pos h]at m1;have h':((t.key:Int)==1)=true:=by rw[h];rfl
  dsimp! [↑ks,↑kn,ve,e1,e2,↑fU,q,z0,h',m1,UW rfl fU el,i0,i1,dn rfl rfl rfl e4 rfl,e5]
 ·rw[if_neg h]at m1;have h':((t.key:Int)==1)=false:=by rw[beq_eq_false_iff_ne];omega
  dsimp! [↑ks,↑kn,ve,e1,e2,↑fU,q,z0,h',m1,UW rfl fU el,i0,i1,dn rfl rfl rfl e4 rfl,e5]
theorem f78(n:Nat){pm:List MO}{t:az}(T:ah pm aa ay)(hk:t.key<7)(hl:aa.length<=700000)(hb:ay.length<=700000)
  (hA:∀x∈(bj (bD aa ay.length).1 (af t (bD aa ay.length).2)).2,g7 (bj (bD aa ay.length).1 (af t (bD aa ay.length).2)).1 x)
  (nd:(bj (bD aa ay.length).1 (af t (bD aa ay.length).2)).2.Nodup) (h0:(bj (bD aa ay.length).1 (af t (bD aa ay.length).2)).2≠[]):
  ∃aA,rn (n+6) 78 [.ax 0,.aI 0,.d (.tup [.int 16,.int 17]),.d t.d] pm [.list (fT.map .int)]=some (.d (.int (wX aa ay.length t).2),aA,[.list (fT.map .int)])/\
   ah aA (wX aa ay.length t).1 (ay++[.int (fT[t.key]?.getD 0)])/\rj pm aA:=by
 have RA:=cM T.rs (u9 ay.length);obtain⟨fR,e1,T1,N1⟩:=f5 (n+3) (s:= .str [80]) (bd:=fT[t.key]?.getD 0) T () ();have T1:ah fR (bD aa ay.length).1 (ay++[.int (fT[t.key]?.getD 0)]):=T1;have lA:(bD aa ay.length).1.length<=aa.length+1:=RA.len;have RA':cz (bD aa ay.length).1:=RA.rs;obtain⟨dt,e2,T2,K2⟩:=Pb (n:=n+4) (m:=t.mask) (tm:=[.list (fT.map .int)]) (x1:=some (.aI 0)) (x2:=some (.d (.tup [.int 16,.int 17]))) (x3:=some (.d t.d)) (x4:=some (.d (.int t.key))) (x5:=some (.d (.int t.opt))) (x6:=some (.d (.int t.ro))) (x8:=some (.d (.bool t.mem))) (x9:=some (.d (.int (bD aa ay.length).2))) (nj:=none) [0,1,2] fR (bD aa ay.length).1 ∅ T1 (by show _+3<=_;omega);obtain⟨RU,pU,lU⟩:=iC (bh t.mask [0,1,2]) (bD aa ay.length).1 RA' (jQ _);have lu:(bh t.mask [0,1,2]).length<=3:=kG (m:=t.mask) [0,1,2];have ve:=FO hk;have wL:∃iZ i,(t.mem=true->rn (n+5) 4 [.ax 0,.d (.tup [.int 15,.int (if t.key=1 then 17 else 16),.int (bD aa ay.length).2])] dt []=some (.d (.int i),iZ,[]))/\(t.mem=false->iZ=dt)/\
   bj (bD aa ay.length).1 (af t (bD aa ay.length).2)=((bj (bD aa ay.length).1 (af t (bD aa ay.length).2)).1,(bj (bD aa ay.length).1 (bh t.mask [0,1,2])).2++(if t.mem then[i]else[]))/\
   ah iZ (bj (bD aa ay.length).1 (af t (bD aa ay.length).2)).1 (ay++[.int (fT[t.key]?.getD 0)])/\gj dt iZ/\
   (bD aa ay.length).1<+:(bj (bD aa ay.length).1 (af t (bD aa ay.length).2)).1/\(bj (bD aa ay.length).1 (af t (bD aa ay.length).2)).1.length<=aa.length+10:=by
  cases q:t.mem with
  |false=>
   rw[Du q];exact⟨dt,0,λz=>absurd z ∅,λ_=>rfl,by rw[jj,ej],T2,.refl,pU,aW lU (aW (hZ lA lu) (eU (show 4<=10 by decide) _))⟩
  |true=>
   rw[Dv q];have ok:=fm (if t.key=1 then 17 else 16) (bD aa ay.length).2;have P:=cM RU ok;obtain⟨iZ,e3,T3,K3⟩:=f4 (n+4) T2 ok ();refine⟨iZ,_,λ_=>e3,λz=>absurd z ∅,?_,?_,K3,?_,?_⟩
   ·rw[jq,lV];rfl
   ·rw[jq];exact T3
   ·rw[jq];exact pU.trans P.pre
   ·rw[jq];show(bM _ _).1.length<=_;exact aW P.len (aW (oh (aW lU (hZ lA lu))) (eU (show 5<=10 by decide) _))
 obtain⟨iZ,i,m1,m2,mP,T3,K3,p3,l3⟩:=wL;have y0:aD (bD aa ay.length).1 (bD aa ay.length).2 (.par ay.length):=ri.ty (S:= .par ay.length) RA ();have y:=y0.pre p3;have lP:(bj (bD aa ay.length).1 (af t (bD aa ay.length).2)).2.length<=4:=by rw[jr];unfold af;rw[dS];split<;>simp only[fw,List.length_nil]<;>omega
 obtain⟨rg,e4,T4,K4⟩:=f12 (n+1) (a:= .aI 0) (ts:=[.list ((bj (bD aa ay.length).1 (af t (bD aa ay.length).2)).2.map .int)]) (tl:=[.dead]) (ae:=(bj (bD aa ay.length).1 (af t (bD aa ay.length).2)).2) (fy:= .aI 0 (.list ((bj (bD aa ay.length).1 (af t (bD aa ay.length).2)).2.map .int))) T3 hA nd h0 () ()
  (λx=>rfl) rfl (λx=>rfl)
 have T4:ah rg (pF aa ay.length t).1 (ay++[.int (fT[t.key]?.getD 0)]):=T4;have l4:(pF aa ay.length t).1.length<=aa.length+11:=by have:=O6 (ae:=(bj (bD aa ay.length).1 (af t (bD aa ay.length).2)).2) T3.rs;have:(pF aa ay.length t).1.length<=(bj (bD aa ay.length).1 (af t (bD aa ay.length).2)).1.length+1:=this;omega
 obtain⟨EM,e5,T5,K5⟩:=f4 (n+4) T4 (FN ay.length (fT[t.key]?.getD 0) (pF aa ay.length t).2 t.opt t.ro) ();refine⟨EM,?_,T5,N1.trans ((K2.trans (K3.trans (K4.trans K5))).new)⟩;have fU:fits ((bj (bD aa ay.length).1 (bh t.mask [0,1,2])).2.map D.int)=true:=cT (by rw[eT,jr];omega);have ks:=Dt (k:=t.key) ();have kn:decide ((0:Int)<=t.key)=true:=ed (sT _);have el:((bj (bD aa ay.length).1 (bh t.mask [0,1,2])).2.map D.int++(if t.mem then[D.int i]else[]))=(bj (bD aa ay.length).1 (af t (bD aa ay.length).2)).2.map D.int:=by have:=congrArg Prod.snd mP;dsimp only at this;rw[this,uD];cases t.mem<;>rfl
 cases q:t.mem with
 |false=>
  rw[q,jj,ej]at el;rw[<-el,m2 q]at e4;have i0:=T3.i0;have i1:=T3.i1;rw[m2 q]at i0 i1;exact Pc q ks kn ve e1 e2 fU i0 i1 y e4 e5
 |true=>
  rw[q,lV]at el;exact Pd q ks kn ve e1 e2 fU el T2.i0 (m1 q) T3.i0 T3.i1 y e4 e5
end
section
variable{pm:List MO}
theorem nq{α:Type}{l r:List α}{x:α}:(l++x::r)[l.length]?=some x:=by simp
theorem qE{α:Type}{l r:List α}{x y:α}:(l++x::r).set l.length y=l++y::r:=by rw[List.set_append_right _ _ (dA _)];simp
theorem wa{X:Cx}{C a:Nat}{e:E}{r:Ss}{ls:Ls}{q q':List MO}{t t':List TO}{fs:List (Nat×PV)}{v:PV}(h0:ls[0]?= ~~~(.ax pm.length))(hE:ai (cX λv σ=>PS.eV σ v) (eval X e ls ⟨pm++ .inst C fs::q,t⟩)=some (v,⟨pm++ .inst C fs::q',t'⟩))
  (hv:∀σ k,PS.wz σ (.ax k) a v=ai (X0 σ k a v) σ.pm[k]?) (hf:wy fs 100=true):execs X (.cons (.dW 'a' a e) r) ls ⟨pm++ .inst C fs::q,t⟩=execs X r ls ⟨pm++ .inst C (s7 a v fs)::q',t'⟩:=by
 obtain⟨v0,σ1,e1,e2⟩:=E7 hE;show uO _ (ai (cX (p7 (eval X 'a') ls (X6 ls a))) (eval X e ls _))=_;rw[e1];show uO _ (ai (cX (X6 ls a v0)) (ai (Oe σ1) ls[0]?))=_;rw[h0];show uO _ (ai (cX (Uw ls (.ax pm.length) a)) (σ1.eV v0))=_;rw[show σ1.eV v0=_ from e2];show uO _ (Uw ls (.ax pm.length) a v _)=_;unfold Uw;rw[hv,nq];show uO _ (ai _ (dy _ (wy fs 100)))=_;rw[hf];show execs X r ls ⟨(pm++_::q').set pm.length _,_⟩=_;rw[qE]
theorem Sg{X:Cx}{ls:Ls}{q:List MO}{x y:MO}{z:TO}{t:List TO}{e:E}(h:∀σ,eval X e ls σ=some (.aI σ.tm.length,⟨σ.pm,σ.tm++[z]⟩))(k:∀σ n,stK σ n z=some (.ax σ.pm.length,⟨σ.pm++[y],σ.tm.set n .dead⟩)):
  ai (cX λv σ=>PS.eV σ v) (eval X e ls ⟨pm++x::q,t⟩)=some (.ax (pm.length+q.length+1),⟨pm++x::(q++[y]),t++[.dead]⟩):=by
 rw[h];show ai (stK _ t.length) (t++[z])[t.length]?=_;rw[nq];show stK _ _ z=_;rw[k];show some (PV.ax (pm++x::q).length,PS.mk ((pm++x::q)++[y]) ((t++[z]).set t.length .dead))=_;rw[eI,dS,qE];rfl
theorem iy(n:Nat):rn (n+1) 0 [.ax pm.length] (pm++[.inst 1 []]) []=some (.d .none,pm++[.inst 1 [(0,.ax (pm.length+1))],.list []],[]):=
 rb0.trans ((congrArg (ai (cX (mj []))) ((wa rfl (Sg (λ_=>rfl) λ_ _=>rfl) (λ_ _=>rfl) rfl).trans rfl)).trans rfl)
theorem new1(n:Nat){tm:List TO}:cJ ((aH (n+1)).new 1) [] ⟨pm,tm⟩=some (.ax pm.length,⟨pm++[.inst 1 [(0,.ax (pm.length+1))],.list []],tm⟩):=by
 have e:(aH (n+1)).new 1 [] pm []=some (.ax pm.length,pm++[.inst 1 [(0,.ax (pm.length+1))],.list []],[]):=by exact aq (iy _)
 exact aq e
theorem f68(n:Nat):rn (n+1) 68 [.ax pm.length,.ax 0] (pm++[.inst 3 []]) []=some (.d .none,pm++[.inst 3 bK],[]):=
 rb68.trans ((congrArg (ai (cX (mj []))) ((wa rfl rfl (λ_ _=>rfl) rfl).trans ((wa rfl rfl (λ_ _=>rfl) rfl).trans ((wa rfl rfl (λ_ _=>rfl) rfl).trans ((wa rfl rfl (λ_ _=>rfl) rfl).trans rfl))))).trans rfl)
theorem new3(n:Nat){tm:List TO}:cJ ((aH (n+1)).new 3) [.ax 0] ⟨pm,tm⟩=some (.ax pm.length,⟨pm++[.inst 3 bK],tm⟩):=by
 have e:(aH (n+1)).new 3 [.ax 0] pm []=some (.ax pm.length,pm++[.inst 3 bK],[]):=by exact aq (f68 _)
 exact aq e
def cO(b h:Nat)(m:Int):List MO:=[.inst 2 (fQ b (b+4) h (b+1) m true (.d .none) 0),.dict [],.dict [],.dict [],.list [],.list [],.inst 1 [(0,.ax (b+7))],.list []]
theorem asC{n:Nat}{ls:Ls}{t:List TO}{q:List MO}{x:MO}:ai (cX λv σ=>PS.eV σ v) (eval (aH (n+1)) (.new 1 .nil) ls ⟨pm++x::q,t⟩)=some (.ax (pm.length+q.length+1),⟨pm++x::(q++[.inst 1 [(0,.ax (pm.length+q.length+2))],.list []]),t⟩):=by show ai _ (cJ ((aH (n+1)).new 1) [] _)=_;rw[new1,eI,dS];rfl
theorem f17(n:Nat){h:Nat}{m:Int}:rn (n+2) 17 [.ax pm.length,.ax h,.d (.int m)] (pm++[.inst 2 []]) []=some (.d .none,pm++cO pm.length h m,[]):=
 rb17.trans ((congrArg (ai (cX (mj []))) ((wa rfl rfl (λ_ _=>rfl) rfl).trans ((wa rfl rfl (λ_ _=>rfl) rfl).trans ((wa rfl (Sg (λ_=>rfl) λ_ _=>rfl) (λ_ _=>rfl) rfl).trans ((wa rfl (Sg (λ_=>rfl) λ_ _=>rfl) (λ_ _=>rfl) rfl).trans ((wa rfl (Sg (λ_=>rfl) λ_ _=>rfl) (λ_ _=>rfl) rfl).trans ((wa rfl (Sg (λ_=>rfl) λ_ _=>rfl) (λ_ _=>rfl) rfl).trans ((wa rfl (Sg (λ_=>rfl) λ_ _=>rfl) (λ_ _=>rfl) rfl).trans ((wa rfl rfl (λ_ _=>rfl) rfl).trans ((wa rfl asC (λ_ _=>rfl) rfl).trans ((wa rfl rfl (λ_ _=>rfl) rfl).trans ((wa rfl rfl (λ_ _=>rfl) rfl).trans ((wa rfl rfl (λ_ _=>rfl) rfl).trans ((wa rfl rfl (λ_ _=>rfl) rfl).trans rfl)))))))))))))).trans rfl)
theorem LD(n:Nat){h:Nat}{m:Int}:ix (rn (n+2)) (yQ 2) [.ax h,.d (.int m)] pm []=some (.ax pm.length,pm++cO pm.length h m,[]):=aq (f17 _)
theorem new2(n:Nat){h:Nat}{m:Int}{tm:List TO}:cJ ((aH (n+2)).new 2) [.ax h,.d (.int m)] ⟨pm,tm⟩=some (.ax pm.length,⟨pm++cO pm.length h m,tm⟩):=aq (LD n)
end
def kz(c:Int):D:= .tup [.int c,.int 0]
structure gZ (k h b:Nat) (aE:Int->Int->Bool) (tw:PV) (aX:List D) (pm:List MO):Prop where
 ex:∃t kn,bZ pm b t h (b+1) 1 true tw 0 [] kn [] aX/\qd aE kn/\kn.length<=3000*k
 ih:pm[h]?=some (.inst 3 bK)
 h9:9<=h
 hb:b=h+1
section
variable{aa ay:List D}{k h b:Nat}{aE:Int->Int->Bool}{tw:PV}{aX:List D}{pm:List MO}{n:Nat}
theorem gZ.keep{aA:List MO}(N:gZ k h b aE tw aX pm)(kk:gj pm aA):gZ k h b aE tw aX aA:=by
 obtain⟨t,kn,R,K,l⟩:=N.ex;have h9:=N.h9;have hb:=N.hb;have ht:=R.ht;have g:∀j,9<=j->aA[j]?=pm[j]?:=λj hj=>kk.2 j () ();refine⟨⟨t,kn,⟨?_,?_,?_,?_,?_,?_,?_,ht,R.hr⟩,K,l⟩,by rw[g h h9];exact N.ih,h9,hb⟩
 ·rw[g b ()];exact R.iI
 ·rw[g (b+1) ()];exact R.iR
 ·rw[g (b+2) ()];exact R.iA
 ·rw[g (b+3) ()];exact R.iK
 ·rw[g t ()];exact R.iT
 ·rw[g (b+6) ()];exact R.iN
 ·rw[g (b+7) ()];exact R.iL
theorem ah.below{aA:List MO}(T:ah pm aa ay)(hb:9<=b)(bl:bL b pm aA):ah aA aa ay:=by
 refine⟨?_,?_,?_,?_,?_,?_,T.rs⟩
 ·rw[bl.2 0 ()];exact T.i0
 ·rw[bl.2 1 ()];exact T.i1
 ·rw[bl.2 2 ()];exact T.i2
 ·rw[bl.2 4 ()];exact T.i4
 ·rw[bl.2 5 ()];exact T.i5
 ·rw[bl.2 6 ()];exact T.i6
theorem gZ.wd(N:gZ k h b aE tw aX pm)(T:ah pm aa ay):Wd aa ay h pm:=⟨T.i0,T.i1,T.i4,N.ih⟩
theorem Dw{dq:Int->Int->Prop}{mu:Int->Nat}{s t:Int}(HQ:∀s t,dq s t->EL aa ay dq aE mu s t)(q:dq s t)(N:gZ k h b aE tw aX pm)(T:ah pm aa ay)(ln:aX.length<=1000)(hk:k<=20)(hm:mu s+mu t<=3)(hn:41<=n):
  ∃aA,rn n 18 [.ax b,.d (.int s),.d (.int t)] pm []=some (.d (.bool (aE s t)),aA,[])/\gZ (k+1) h b aE tw aX aA/\ah aA aa ay:=by
 obtain⟨t0,kn,R,K,l⟩:=N.ex;have h9:=N.h9;have hb:=N.hb;have hG:GG (mu s+mu t+1)<=2222:=z9 (show mu s+mu t+1<=4 by omega);have A:=LC (Va (aa:=aa) (ay:=ay) (b:=b) (h:=h) (ru:=b+1) (bR:=true) (tw:=tw) (aX:=aX) () () () HQ (mu s+mu t+1) (n-(8*(mu s+mu t+1)+9)));rw[show n-(8*(mu s+mu t+1)+9)+8*(mu s+mu t+1)+8+1=n from oc7 ‹_› ‹_›]at A;obtain⟨aA,t',eZ,hU,e,R',z,_,_,l',bl⟩:=(A s t q () pm t0 0 [] kn (N.wd T) ⟨R,K,sV,λ_ h=>nomatch h⟩ (by simp;omega) () ()).ex;have z:=z rfl;subst z;exact⟨aA,e,⟨⟨t',hU,R'.R,R'.K,aW l' (hZ l (aW hG ∅))⟩,by rw[bl.2 h ()];exact N.ih,h9,hb⟩,T.below () bl⟩
theorem tL{c:Int}(N:gZ k h b aE tw aX pm)(T:ah pm aa ay)(ln:aX.length<=1000):
  ∃aA,rn (n+2) 19 [.ax b,.d (.int c)] pm []=some (.d .none,aA,[])/\gZ k h b aE tw (aX++[kz c]) aA/\ah aA aa ay:=by
 obtain⟨t,kn,R,K,l⟩:=N.ex;have h9:=N.h9;have hb:=N.hb;have bl:bL b pm (pm.set (b+7) (.list (aX++[kz c]))):= .set ();refine⟨_,f19 n R () c,⟨⟨t,kn,R.UY _,K,l⟩,?_,h9,hb⟩,T.below () bl⟩;rw[if_pos rfl];exact(bl.2 h ()).trans N.ih
end
section
variable{aa ay:List D}{k h b:Nat}{aE iS:Int->Int->Bool}{tw:PV}{aX:List D}{pm:List MO}
def oJ(eN h ru:Nat):List MO:=[.inst 2 (fQ eN (eN+4) h ru 3 false (.d .none) 0),.dict [],.dict [],.dict [],.list [],.list [],.inst 1 [(0,.ax (eN+7))],.list []]
theorem f23(n:Nat){t:Nat}{as kn:List (D×D)}{tl:List D}(R:bZ pm b t h (b+1) 1 true tw 0 as kn tl aX):rn (n+3) 23 [.ax b,.d (.int 3)] pm []=some (.ax pm.length,pm++oJ pm.length h (b+1),[]):=by
 have I:=R.iI;have nb:b<pm.length:=(gf.mp I).1;have I2:∀L:List MO,(pm++L)[b]?=some (.inst 2 (fQ b t h (b+1) 1 true tw 0)):=λL=>by rw[mM nb];exact I
 have g:(pm++cO pm.length h 3)[pm.length]?=some (.inst 2 (fQ pm.length (pm.length+4) h (pm.length+1) 3 true (.d .none) 0)):=nq;have gS:∀x,((pm++cO pm.length h 3).set pm.length x)[pm.length]?=some x:=λx=>by rw[c_ g,if_pos rfl]
 dsimp! [LD n,I2 _,g,gS _]
 rw[chain];simp[qE,cO,oJ,fQ,s7,qX]
theorem f24(n:Nat){t:Nat}{as kn:List (D×D)}{tl:List D}(R:bZ pm b t h (b+1) 1 true (.d .none) 0 as kn tl aX):rn (n+4) 24 [.ax b] pm []=some (.ax pm.length,(pm++oJ pm.length h (b+1)).set b (.inst 2 (fQ b t h (b+1) 1 true (.ax pm.length) 0)),[]):=by
 have I:=R.iI;have nb:b<pm.length:=(gf.mp I).1;have I2:∀L:List MO,(pm++L)[b]?=some (.inst 2 (fQ b t h (b+1) 1 true (.d .none) 0)):=λL=>by rw[mM nb];exact I
 have e:=f23 n R;have I3:∀x,((pm++oJ pm.length h (b+1)).set b x)[b]?=some x:=λx=>by rw[c_ (I2 _),if_pos rfl]
 dsimp! [I2 _,I3 _,e]
theorem f20(n:Nat){dq:Int->Int->Prop}{mu:Int->Nat}{s t:Int}(HQ:∀s t,dq s t->u7 aa dq iS mu s t)(q:dq s t)(N:gZ k h b aE (.d .none) aX pm)(T:ah pm aa ay)(hm:mu s+mu t<=2)(ne:s≠t)(hn:41<=n):
  ∃aA Pe,rn n 20 [.ax b,.d (.int s),.d (.int t)] pm []=some (.d (.bool (iS s t)),aA,[])/\gZ k h b aE Pe aX aA/\ah aA aa ay:=by
 obtain⟨t0,kn,R,K,l⟩:=N.ex;have h9:=N.h9;have hb:=N.hb;have lt:=R.lt;have tlt:t0<pm.length:=(gf.mp R.iT).1;obtain⟨m,rfl⟩:∃m,n=m+5:=⟨n-5,()⟩;have e24:=f24 m R;have I:=R.iI;generalize Pf:(pm++oJ pm.length h (b+1)).set b (.inst 2 (fQ b t0 h (b+1) 1 true (.ax pm.length) 0))=dt at e24;have g1:∀j,j<pm.length->j≠b->dt[j]?=pm[j]?:=λj h1 h2=>by rw[<-Pf,bq (gA h2),mM h1]
 have g2:dt[b]?=some (.inst 2 (fQ b t0 h (b+1) 1 true (.ax pm.length) 0)):=by rw[<-Pf,dz];simp;omega
 have g3:∀j,dt[pm.length+j]?=(oJ pm.length h (b+1))[j]?:=λj=>by rw[<-Pf,bq (),yw ()];congr 1;omega
 have R2:bZ dt b t0 h (b+1) 1 true (.ax pm.length) 0 [] kn [] aX:=by
  have ht:=R.ht;refine⟨g2,?_,?_,?_,?_,?_,?_,ht,R.hr⟩
  ·rw[g1 _ () ()];exact R.iR
  ·rw[g1 _ () ()];exact R.iA
  ·rw[g1 _ () ()];exact R.iK
  ·rw[g1 _ () ()];exact R.iT
  ·rw[g1 _ () ()];exact R.iN
  ·rw[g1 _ () ()];exact R.iL
 have Rt:bZ dt pm.length (pm.length+4) h (b+1) 3 false (.d .none) 0 [] [] [] []:=by refine⟨g3 0,?_,g3 2,g3 3,g3 4,g3 6,g3 7,.inl rfl,.inl ()⟩;rw[g1 _ () ()];exact R.iR
 have W2:Wd aa ay h dt:=⟨by rw[g1 _ () ()];exact T.i0,by rw[g1 _ () ()];exact T.i1,by rw[g1 _ () ()];exact T.i4,by rw[g1 _ () ()];exact N.ih⟩;have hG:∀M,M<=3->G3 M<=18626:=λM hM=>by exact(by decide:∀x<4,G3 x<=18626) M (Nat.lt_succ_of_le hM)
 have hG:=hG (mu s+mu t+1) ();have A:=Ab (I9 (aa:=aa) (ay:=ay) (b:=pm.length) (h:=h) (ru:=b+1) (bR:=false) (tw:= .d .none) (aX:=[]) (by simp) () () HQ (mu s+mu t+1) (m+4-(8*(mu s+mu t+1)+9)));rw[show m+4-(8*(mu s+mu t+1)+9)+8*(mu s+mu t+1)+8+1=m+4 from oc8 ‹_› ‹_›]at A;unfold G3 at hG;obtain⟨iZ,t3,eZ,hU,e,_,_,_,_,_,bl⟩:=(A s t q () dt _ 0 [] [] W2 ⟨Rt,(λ_ h=>nomatch h),sV,λ_ h=>nomatch h⟩ (by simp;omega) (by simp;omega) ()).ex;have ne':(s==t)=false:=by simpa using ne
 refine⟨iZ,.ax pm.length,?_,⟨⟨t0,kn,?_,K,l⟩,?_,h9,hb⟩,?_⟩
 ·have C:=Rt.iI;have e':rn (m+4) 18 [.ax pm.length,.d (.int s),.d (.int t)] dt []=some (.d (.bool (iS s t)),iZ,[]):=e
  dsimp! [C,ne',e24,e']
 ·have ht:=R.ht;refine⟨?_,?_,?_,?_,?_,?_,?_,ht,R.hr⟩
  ·rw[bl.2 _ ()];exact R2.iI
  ·rw[bl.2 _ ()];exact R2.iR
  ·rw[bl.2 _ ()];exact R2.iA
  ·rw[bl.2 _ ()];exact R2.iK
  ·rw[bl.2 _ ()];exact R2.iT
  ·rw[bl.2 _ ()];exact R2.iN
  ·rw[bl.2 _ ()];exact R2.iL
 ·rw[bl.2 _ ()];exact W2.ih
 ·refine ah.below (b:=pm.length) ⟨?_,?_,?_,?_,?_,?_,T.rs⟩ () bl
  ·exact W2.i0
  ·exact W2.i1
  ·rw[g1 _ () ()];exact T.i2
  ·exact W2.i4
  ·rw[g1 _ () ()];exact T.i5
  ·rw[g1 _ () ()];exact T.i6
theorem f30(n:Nat){t:Nat}{as kn:List (D×D)}{tl:List D}(R:bZ pm b t h (b+1) 1 true tw 0 as kn tl aX):rn (n+1) 30 [.ax b] pm []=some (.d (.bool true),pm,[]):=by
 have I:=R.iI
 dsimp! [rfl]
theorem f31(n:Nat){dq:Int->Int->Prop}{mu:Int->Nat}{s t:Int}(HQ:∀s t,dq s t->u7 aa dq iS mu s t)(q:s≠t->dq s t)(N:gZ k h b aE (.d .none) aX pm)(T:ah pm aa ay)(hm:mu s+mu t<=2)(O2:s≠13)(t13:t≠13)(ln:aX.length<=1000)(hn:42<=n):
  ∃aA Pe,rn n 31 [.ax b,.d (.int s),.d (.int t)] pm []=some (.d .none,aA,[])/\gZ k h b aE Pe (if s=t\/iS s t=true then aX else aX++[kz 3]) aA/\ah aA aa ay:=by
 obtain⟨m,rfl⟩:∃m,n=m+3:=⟨n-3,()⟩;obtain⟨t0,kn,R,K,l⟩:=N.ex;have I:=R.iI;have e30:=f30 (m+1) R;have Ds:(s==13)=false:=by simpa using O2
 have FH:(t==13)=false:=by simpa using t13
 by_cases e:s=t
 ·subst e;rw[if_pos (.inl rfl)];have LF:rn (m+2) 20 [.ax b,.d (.int s),.d (.int s)] pm []=some (.d (.bool true),pm,[]):=by
   have z:(s==s)=true:=beq_self_eq_true _;rw[<-z]
   dsimp! [z]
  refine⟨pm,_,?_,N,T⟩
  dsimp! [e30,m5 Ds,LF]
 ·obtain⟨fR,tw1,LF,N1,T1⟩:=f20 (m+2) HQ (q e) N T hm e ();cases ha:iS s t with
  |true=>
   rw[ha]at LF;rw[if_pos (.inr rfl)];refine⟨fR,tw1,?_,N1,T1⟩
   dsimp! [e30,m5 Ds,m5 FH,LF]
  |false=>
   rw[ha]at LF;rw[if_neg (by simp[e])];obtain⟨dt,e19,N2,T2⟩:=tL (n:=m) (c:=3) N1 T1 ln;obtain⟨t1,U9,R1,_,_⟩:=N1.ex;have I1:=R1.iI;refine⟨dt,tw1,?_,N2,T2⟩
   dsimp! [I1,e30,m5 Ds,m5 FH,LF,e19]
end
theorem Jc(a b:Int):(a==b)=decide (a=b):=by by_cases h:a=b<;>simp[h]
def cq(pid kn tp opt ro:Int):List D:=[.int 17,.int pid,.int kn,.int (-1),.int tp,.int opt,.int ro]
def i7(o:Int):Int:=if o=2 then-1 else o
def kq(A B:Ty)(want gu:Int):Int×Int:=match A,B with
 | .ko x,.ko y=>(x,y)
 |_,_=>(want,gu)
def wY(o1 r1 o2 r2:Int):List D:=(if (r1=1/\r2≠1)\/(r1=0/\r2=2)then[kz 4]else[])++(if o1≠o2/\r2≠1 then[kz 3]else[])
theorem iD{c:Prop} [Decidable c] {x:D}:(if c then[x]else([]:List D)).length<=1:=by split<;>simp
section
variable{aa ay:List D}{k h b:Nat}{aE iS:Int->Int->Bool}{tw:PV}{aX:List D}{pm:List MO}
theorem f57(n:Nat){o:Int}:rn (n+1) 57 [.d (.int o)] pm []=some (.d (.int (i7 o)),pm,[]):=by
 unfold i7;have t:=wG (X:=aH n) (σ:=⟨pm,[]⟩) (ls:=[some (.d (.int o))]) (a:= .loc 0) (b:= .lit (.int 2)) (i:=o) (j:=2) rfl rfl;rw[Jc]at t;by_cases e:o=2
 ·rw[if_pos e];rw[ed e]at t;exact jO (F:=⟨1,1,Oi⟩) (v:= .d (.int (-1))) rfl rfl rfl (bS (fz (iY t rfl))) rfl
 ·rw[if_neg e];rw[dU e]at t;exact jO (F:=⟨1,1,Oi⟩) (v:= .d (.int o)) rfl rfl rfl (bS (fz (ig t rfl))) rfl
def Ty.gD:Ty->Bool
 | .ko _=>true
 |_=>false
theorem yW(T:Ty):(T.kind==14)=T.gD:=by cases T<;>rfl
theorem Ah{T:Ty}(h:T.gD=true):∃x,T= .ko x:=by cases T<;>first|exact⟨_,rfl⟩|cases h
theorem Vf{A B:Ty}{w v:Int}(h:(A.gD&&B.gD)=false):kq A B w v=(w,v):=by cases A<;>first|rfl|(cases B<;>first|rfl|cases h)
theorem f58(n:Nat){dq:Int->Int->Prop}{mu:Int->Nat}{want gu:Int}{A B:Ty}(HQ:∀s t,dq s t->EL aa ay dq aE mu s t)(N:gZ k h b aE tw aX pm)(T:ah pm aa ay)(ln:aX.length<=1000)(hk:k<=20)(yA:aD aa gu A)(yB:aD aa want B)
  (q:dq (kq A B want gu).1 (kq A B want gu).2) (hm:mu (kq A B want gu).1+mu (kq A B want gu).2<=3) (hn:42<=n):
  ∃aA,rn n 58 [.ax b,.d (.int want),.d (.int gu)] pm []=some (.d (.bool (aE (kq A B want gu).1 (kq A B want gu).2)),aA,[])/\gZ (k+1) h b aE tw aX aA/\ah aA aa ay:=by
 obtain⟨m,rfl⟩:∃m,n=m+1:=⟨n-1,()⟩;obtain⟨aA,e,N',T'⟩:=Dw HQ q N T ln hk hm (n:=m) ();refine⟨aA,?_,N',T'⟩;clear N' T' HQ q hm;obtain⟨t0,kn,R,K,l⟩:=N.ex;have tx:∀{ls:Ls},ls[0]?= ~~~(.ax b)->eval (aH m) OV ls ⟨pm,[]⟩=some (.ax 1,⟨pm,[]⟩):=λh0=>z7 h0 R.iI rfl N.ih T.i0;have i9:gh ⟨pm,[]⟩ (.ax b)=some 2:=(congrArg (ai Fb) R.iI).trans rfl;refine jO (F:=⟨3,5,UB⟩) (EJ:=[some (.ax b),some (.d (.int want)),some (.d (.int gu)),none,none]) (v:= .d (.bool (aE (kq A B want gu).1 (kq A B want gu).2))) (ls:=[some (.ax b),some (.d (.int want)),some (.d (.int gu)),some (.d (.tup A.row)),some (.d (.tup B.row))]) (σ:=⟨aA,[]⟩) rfl rfl rfl
  (sQ (bC (cY (tx rfl) (ak rfl) (yA.get T.i1))) (sQ (bC (cY (tx rfl) (ak rfl) (yB.get T.i1))) ?_)) rfl
 cases c:A.gD&&B.gD with
 |true=>
  obtain⟨c1,c2⟩:=jJ.mp c;obtain⟨x,rfl⟩:=Ah c1;obtain⟨y,rfl⟩:=Ah c2;exact bS (bI (mZ (b:=true) (c:=true) rfl rfl) (bS (fz (mX (ak rfl) i9 rfl (au rfl (au rfl bp)) (bX rfl e)))))
 |false=>
  rw[Vf c]at e⊢;exact sQ (aS ((mZ (wG (cY (ak rfl) aG (m9 A)) rfl) (wG (cY (ak rfl) aG (m9 B)) rfl)).trans (by rw[yW,yW,c])) aP) (bS (fz (mX (ak rfl) i9 rfl (au (ak rfl) (au (ak rfl) bp)) (bX rfl e))))
abbrev Vg (c:E) (g:Nat):S:= .ite c #[.expr (.aR 'a' 9 #[.glob g])] .nil
theorem iE{n:Nat}{c:E}{g:Nat}{code:Int}{v:Bool}{ls:Ls}(h0:ls[0]?= ~~~(.ax b))(hg:l7 g=some (.int code))(ht:test (aH (n+2)) c ls ⟨pm,[]⟩=some (v,⟨pm,[]⟩))(N:gZ k h b aE tw aX pm)(T:ah pm aa ay)(ln:aX.length<=1000):
  ∃aA,exec (aH (n+2)) (Vg c g) ls ⟨pm,[]⟩=some (.next,ls,⟨aA,[]⟩)/\gZ k h b aE tw (aX++(if v then[kz code]else[])) aA/\ah aA aa ay:=by
 cases v with
 |false=>
  rw[jj,ej];exact⟨pm,aS ht aP,N,T⟩
 |true=>
  rw[lV];obtain⟨aA,e,N',T'⟩:=tL (n:=n) (c:=code) N T ln;refine⟨aA,bI ht ?_,N',T'⟩;obtain⟨t0,kn,R,K,l⟩:=N.ex;have I:=R.iI;have hgl:eval (aH (n+2)) (.glob g) ls ⟨pm,[]⟩=some (.d (.int code),⟨pm,[]⟩):=aq hg;have ev:=mX (X:=aH (n+2)) (m:=9) (C:=2) (f:=19) (ak (σ:=⟨pm,[]⟩) h0) (aq I) rfl (au hgl bp) (bX rfl e);rw[av (qA ev rfl),aP]
theorem Dy{p:Prop} [Decidable p] {v:Bool}{x y:List D}(h:v=true<->p):(if v=true then x else y)=if p then x else y:=by
 cases v with
 |true=>rw[if_pos rfl,if_pos (h.mp rfl)]
 |false=>rw[if_neg ∅,if_neg λz=>nomatch h.mpr z]
theorem Vh(r1 r2:Int):((r1==1&&!(r2==1))||(r1==0&&r2==2))=true<->(r1=1/\r2≠1)\/(r1=0/\r2=2):=by simp
theorem n60b(o1 o2 r2:Int):(!(o1==o2)&&!(r2==1))=true<->o1≠o2/\r2≠1:=by simp
theorem f60(n:Nat){p1 k1 t1 o1 r1 p2 k2 t2 o2 r2:Int}(N:gZ k h b aE tw aX pm)(T:ah pm aa ay)(ln:aX.length<=900):
  ∃aA,rn (n+3) 60 [.ax b,.d (.tup (cq p1 k1 t1 o1 r1)),.d (.tup (cq p2 k2 t2 o2 r2))] pm []=some (.d .none,aA,[])/\gZ k h b aE tw (aX++wY o1 r1 o2 r2) aA/\ah aA aa ay:=by
 obtain⟨fR,e1,N1,T1⟩:=iE (n:=n) (c:= .or #[.and #[.cmp .eq (.sub 'b' 6.0) 1.0,.cmp .ne (.sub 'c' 6.0) 1.0],.and #[.cmp .eq (.sub 'b' 6.0) 0.0,.cmp .eq (.sub 'c' 6.0) 2.0]]) (g:=39) (code:=4) (ls:=[some (.ax b),some (.d (.tup (cq p1 k1 t1 o1 r1))),some (.d (.tup (cq p2 k2 t2 o2 r2)))]) rfl rfl (tOr (mZ (wG (i:=r1) (j:=1) rfl rfl) (UQ (i:=r2) (j:=1) rfl rfl)) (mZ (wG (i:=r1) (j:=0) rfl rfl) (wG (i:=r2) (j:=2) rfl rfl))) N T ();obtain⟨dt,e2,N2,T2⟩:=iE (n:=n) (c:= .and #[.cmp .ne (.sub 'b' 5.0) (.sub 'c' 5.0),.cmp .ne (.sub 'c' 6.0) 1.0]) (g:=26) (code:=3) (ls:=[some (.ax b),some (.d (.tup (cq p1 k1 t1 o1 r1))),some (.d (.tup (cq p2 k2 t2 o2 r2)))]) rfl rfl (mZ (UQ (i:=o1) (j:=o2) rfl rfl) (UQ (i:=r2) (j:=1) rfl rfl)) N1 T1 (by rw[dS,Dy (Vh r1 r2)];have:=iD (c:=(r1=1/\r2≠1)\/(r1=0/\r2=2)) (x:=kz 4);omega);refine⟨dt,Fw (F:=⟨3,3,UD⟩) rfl rfl rfl (sQ e1 (sQ e2 aP)) rfl,?_,T2⟩;rw[Dy (Vh r1 r2),Dy (n60b o1 o2 r2),eI]at N2;exact N2
end
theorem Jd{σ:PS}(A:Ty):compare .isin (.d (.int A.kind)) (.d (.tup [.int 14,.int 7])) σ=some A.gD:=by cases A<;>rfl
theorem n61a(o:Int)(a:Bool):(o==2||(o==0&&!a))=true<->o=2\/(o=0/\a=false):=by simp
theorem n61b(o r:Int)(a:Bool):(o==0&&(a&&!(r==1)))=true<->o=0/\a=true/\r≠1:=by simp
theorem n61c(r1 r2:Int)(a b:Bool):(!b&&(r1==0&&(r2==0&&a)))=true<->b=false/\r1=0/\r2=0/\a=true:=by simp
def vf(FP qg LG:Bool)(o2 r1 r2:Int):List D:=if FP then[]else
 (if o2=2\/(o2=0/\qg=false)then[kz 11]else[])++((if o2=0/\qg=true/\r2≠1 then[kz 3]else[])++(if qg=false/\r1=0/\r2=0/\LG=true then[kz 4]else[]))
section
variable{aa ay:List D}{k h b:Nat}{aE iS:Int->Int->Bool}{tw:PV}{aX:List D}{pm:List MO}
theorem gZ.up{k':Nat}(N:gZ k h b aE tw aX pm)(hk:k<=k'):gZ k' h b aE tw aX pm:=by obtain⟨t,kn,R,K,l⟩:=N.ex;exact⟨⟨t,kn,R,K,()⟩,N.ih,N.h9,N.hb⟩
theorem f59(n:Nat){dq:Int->Int->Prop}{mu:Int->Nat}{p1 k1 t1 o1 r1 p2 k2 t2 o2 r2:Int}{A B:Ty}(HQ:∀s t,dq s t->EL aa ay dq aE mu s t)(N:gZ k h b aE tw aX pm)(T:ah pm aa ay)(ln:aX.length<=1000)(hk:k<=20)(yA:aD aa k1 A)(yB:aD aa k2 B)
  (q:dq (kq A B k2 k1).1 (kq A B k2 k1).2) (hm:mu (kq A B k2 k1).1+mu (kq A B k2 k1).2<=3) (hn:43<=n):
  ∃aA,rn n 59 [.ax b,.d (.tup (cq p1 k1 t1 o1 r1)),.d (.tup (cq p2 k2 t2 o2 r2))] pm []=some (.d (.bool (!decide (i7 o2<i7 o1)&&aE (kq A B k2 k1).1 (kq A B k2 k1).2)),aA,[])/\gZ (k+1) h b aE tw aX aA/\ah aA aa ay:=by
 obtain⟨m,rfl⟩:∃m,n=m+2:=⟨n-2,()⟩;obtain⟨aA,e,N',T'⟩:=f58 (m+1) HQ N T ln hk yA yB q hm ();obtain⟨t0,kn,R,K,l⟩:=N.ex;have I:=R.iI;have c1:=f57 (pm:=pm) m (o:=o1);have c2:=f57 (pm:=pm) m (o:=o2);have s1:exec (aH (m+1)) (.ite (.cmp .eq (.attr 'a' 21) (.glob 20)) #[.bad,.bad] .nil) [some (.ax b),some (.d (.tup (cq p1 k1 t1 o1 r1))),some (.d (.tup (cq p2 k2 t2 o2 r2)))] ⟨pm,[]⟩=some (.next,[some (.ax b),some (.d (.tup (cq p1 k1 t1 o1 r1))),some (.d (.tup (cq p2 k2 t2 o2 r2)))],⟨pm,[]⟩):=aS (wG (i:=1) (j:=3) (wF (ak rfl) I rfl) rfl) aP;have tt:=mZ (X:=aH (m+1)) (σ:=⟨pm,[]⟩) (ls:=[some (.ax b),some (.d (.tup (cq p1 k1 t1 o1 r1))),some (.d (.tup (cq p2 k2 t2 o2 r2)))]) (e:= .cmp .ne (.attr 'a' 21) (.glob 21)) (e2:= .cmp .gt (.call 57 #[.sub 'b' 5.0]) (.call 57 #[.sub 'c' 5.0])) (UQ (i:=1) (j:=2) (wF (ak rfl) I rfl) rfl) (tGt (b_ (vs:=[.d (.int o1)]) rfl (bX rfl c1)) (b_ (vs:=[.d (.int o2)]) rfl (bX rfl c2)));by_cases z:i7 o2<i7 o1
 ·rw[ed z]at tt⊢;exact⟨pm,jO (F:=⟨3,3,Oj⟩) (v:= .d (.bool false)) rfl rfl rfl (sQ s1 (bS (bI tt rfl))) rfl,N.up (),T⟩
 ·rw[dU z]at tt⊢;exact⟨aA,jO (F:=⟨3,3,Oj⟩) rfl rfl rfl (sQ s1 (sQ (aS tt aP) (bS (fz (b_ (vs:=[.ax b,.d (.int k2),.d (.int k1)]) rfl (bX rfl e)))))) rfl,N',T'⟩
abbrev wZ (b:Nat) (l1 l2:List D) (x3 x4:Option PV):Ls:=[some (.ax b),some (.d (.tup l1)),some (.d (.tup l2)),x3,x4]
theorem f61(n:Nat){p1 k1 t1 o1 r1 p2 k2 t2 o2 r2:Int}{A B:Ty}(N:gZ k h b aE tw aX pm)(T:ah pm aa ay)(ln:aX.length<=900)(yA:aD aa k1 A)(yB:aD aa k2 B):
  ∃aA,rn (n+3) 61 [.ax b,.d (.tup (cq p1 k1 t1 o1 r1)),.d (.tup (cq p2 k2 t2 o2 r2))] pm []=some (.d .none,aA,[])/\gZ k h b aE tw (aX++vf (decide (k1=k2)) B.gD A.gD o2 r1 r2) aA/\ah aA aa ay:=by
 obtain⟨t0,kn,R,K,l⟩:=N.ex;have te:=wG (X:=aH (n+2)) (σ:=⟨pm,[]⟩) (ls:=(wZ b (cq p1 k1 t1 o1 r1) (cq p2 k2 t2 o2 r2) none none)) (a:= .sub 'b' 2.0) (b:= .sub 'c' 2.0) (i:=k1) (j:=k2) rfl rfl;rw[Jc]at te;unfold vf;by_cases e:k1=k2
 ·rw[ed e]at te⊢;rw[if_pos rfl,ej];exact⟨pm,jO (F:=⟨3,5,Ol⟩) (v:= .d .none) rfl rfl rfl (bS (bI te rfl)) rfl,N,T⟩
 rw[dU e]at te⊢;clear e;have s2:exec (aH (n+2)) (.asg 3 OV) (wZ b (cq p1 k1 t1 o1 r1) (cq p2 k2 t2 o2 r2) none none) ⟨pm,[]⟩=some (.next,(wZ b (cq p1 k1 t1 o1 r1) (cq p2 k2 t2 o2 r2) (some (.ax 1)) none),⟨pm,[]⟩):=bC (z7 rfl R.iI rfl N.ih T.i0);have fZ:exec (aH (n+2)) (.asg 4 (.cmp .eq (.sub (.sub 'd' (.sub 'c' 2.0)) 0.0) (.glob 37))) (wZ b (cq p1 k1 t1 o1 r1) (cq p2 k2 t2 o2 r2) (some (.ax 1)) none) ⟨pm,[]⟩=some (.next,(wZ b (cq p1 k1 t1 o1 r1) (cq p2 k2 t2 o2 r2) (some (.ax 1)) (some (.d (.bool B.gD)))),⟨pm,[]⟩):=by rw[<-yW];exact bC (UR (cY (cY (ak rfl) rfl (yB.get T.i1)) aG (m9 B)) rfl)
 obtain⟨fR,e1,N1,T1⟩:=iE (n:=n) (c:= .or #[.cmp .eq (.sub 'c' 5.0) 2.0,.and #[.cmp .eq (.sub 'c' 5.0) 0.0,.nt 'e']]) (g:=44) (code:=11) (ls:=(wZ b (cq p1 k1 t1 o1 r1) (cq p2 k2 t2 o2 r2) (some (.ax 1)) (some (.d (.bool B.gD))))) rfl rfl
  (tOr (wG (i:=o2) (j:=2) rfl rfl) (mZ (wG (i:=o2) (j:=0) rfl rfl) (OP (lQ rfl)))) N T ()
 rw[Dy (n61a o2 B.gD)]at N1;have l1:=iD (c:=o2=2\/(o2=0/\B.gD=false)) (x:=kz 11);obtain⟨dt,e2,N2,T2⟩:=iE (n:=n) (c:= .and #[.cmp .eq (.sub 'c' 5.0) 0.0,'e',.cmp .ne (.sub 'c' 6.0) 1.0]) (g:=26) (code:=3) (ls:=(wZ b (cq p1 k1 t1 o1 r1) (cq p2 k2 t2 o2 r2) (some (.ax 1)) (some (.d (.bool B.gD))))) rfl rfl
  (Ft (wG (i:=o2) (j:=0) rfl rfl) (mZ (lQ rfl) (UQ (i:=r2) (j:=1) rfl rfl))) N1 T1 (by rw[dS];exact aW (hZ ln l1) ∅)
 rw[Dy (n61b o2 r2 B.gD)]at N2;have l2:=iD (c:=o2=0/\B.gD=true/\r2≠1) (x:=kz 3);obtain⟨iZ,e3,N3,T3⟩:=iE (n:=n) (c:= .and #[.nt 'e',.cmp .eq (.sub 'b' 6.0) 0.0,.cmp .eq (.sub 'c' 6.0) 0.0,.cmp .isin (.sub (.sub 'd' (.sub 'b' 2.0)) 0.0) (.tup #[.glob 37,.glob 32])]) (g:=39) (code:=4) (ls:=(wZ b (cq p1 k1 t1 o1 r1) (cq p2 k2 t2 o2 r2) (some (.ax 1)) (some (.d (.bool B.gD))))) rfl rfl
  (Ft (OP (lQ rfl)) (Ft (wG (i:=r1) (j:=0) rfl rfl) (mZ (wG (i:=r2) (j:=0) rfl rfl) (tOf rfl (bW (cY (cY (ak rfl) rfl (yA.get T2.i1)) aG (m9 A)) rfl (Jd A)))))) N2 T2 (by rw[dS,dS];exact aW (hZ (hZ ln l1) l2) ∅)
 rw[Dy (n61c r1 r2 A.gD B.gD),eI,eI]at N3;exact⟨iZ,Fw (F:=⟨3,5,Ol⟩) rfl rfl rfl (sQ (aS te aP) (sQ s2 (sQ fZ (sQ e1 (sQ e2 (sQ e3 aP)))))) rfl,N3,T3⟩
end
section
variable{aa ay:List D}{k h b:Nat}{aE iS:Int->Int->Bool}{tw:PV}{aX:List D}{pm:List MO}
def Dz(n6 n7:List D)(r2:Int)(wide:Bool):List D:=n6++(n7++(if r2≠1/\wide=true then[kz 3]else[]))
theorem l60(o1 r1 o2 r2:Int):(wY o1 r1 o2 r2).length<=2:=by unfold wY;rw[dS];exact hZ iD iD
theorem l61(a c d:Bool)(o2 r1 r2:Int):(vf a c d o2 r1 r2).length<=3:=by
 unfold vf;split
 ·simp
 ·rw[dS,dS];exact hZ iD (hZ iD iD)
theorem f62(n:Nat){S:List D×Int}{v v2:Bool}{dq Ai Je:Int->Int->Prop}{mu Aj Jf:Int->Nat}{p1 k1 t1 o1 r1 p2 k2 t2 o2 r2 o:Int}{A B:Ty}(hS:jo aa o t1=S)(hv:(!decide (i7 o2<i7 o1)&&aE (kq A B k2 k1).1 (kq A B k2 k1).2)=v)(Jg:aE S.2 t2=v2)(N:gZ k h b aE (.d .none) [] pm)(T:ah pm aa ay)(hk:k<=10)
  (yA:aD aa k1 A) (yB:aD aa k2 B) (yo:aD aa o (.par p2)) (tm:Ja aa p1 o t1) (lr:aa.length<=800000)
  (HQ:∀s t,dq s t->EL aa ay dq aE mu s t) (q:dq (kq A B k2 k1).1 (kq A B k2 k1).2) (hm:mu (kq A B k2 k1).1+mu (kq A B k2 k1).2<=3)
  (Pg:∀s t,Ai s t->EL S.1 ay Ai aE Aj s t) (q':Ai S.2 t2) (yU:Aj S.2+Aj t2<=3)
  (HQ3:aE S.2 t2=true->∀s t,Je s t->u7 S.1 Je iS Jf s t) (q3:S.2≠t2->Je S.2 t2) (hm3:Jf S.2+Jf t2<=2)
  (SJ:S.2≠13) (Ph:t2≠13) (yA':aD S.1 k1 A) (yB':aD S.1 k2 B) (hn:50<=n):
  ∃aA Pe rf,rn n 62 [.ax b,.d (.tup (cq p1 k1 t1 o1 r1)),.d (.tup (cq p2 k2 t2 o2 r2))] pm []=some (.d (.bool (v&&v2)),aA,[])/\
   gZ (k+2) h b aE Pe (if v&&v2 then Dz (wY o1 r1 o2 r2) (vf (decide (k1=k2)) B.gD A.gD o2 r1 r2) r2 (!decide (S.2=t2\/iS S.2 t2=true))else[]) aA/\ah aA rf ay/\(rf=aa\/rf=S.1):=by
 obtain⟨m,rfl⟩:∃m,n=m+1:=⟨n-1,()⟩;refine goP λG hG=>?_;obtain⟨fR,e1,N1,T1⟩:=f59 m HQ N T (by simp) () yA yB q hm () (p1:=p1) (t1:=t1) (o1:=o1) (r1:=r1) (p2:=p2) (t2:=t2) (o2:=o2) (r2:=r2);clear HQ q hm yA yB N T;rw[hv]at e1;clear hv;cases v with
 |false=>exact hG ⟨fR,.d .none,aa,by dsimp! [e1],N1.up (),T1,.inl rfl⟩
 |true=>
  obtain⟨t1',U9,R1,K1,l1⟩:=N1.ex;obtain⟨dt,e2,T2,kp2⟩:=O8 (m-2) T1 yo ();rw[show m-2+2=m by omega]at e2;have N2:=N1.keep kp2;obtain⟨iZ,e3,T3,kp3⟩:=f69 (n:=m-7) N1.h9 T2 N2.ih tm ();rw[show m-7+7=m by omega,hS]at e3;rw[hS]at T3;have N3:=N2.keep kp3;obtain⟨rg,e4,N4,T4⟩:=Dw Pg q' N3 T3 (by simp) () yU (n:=m) ();obtain⟨t3',kn3,R3,K3,l3⟩:=N3.ex;have I1:=R1.iI;have I3:=R3.iI;have I_:=N1.ih;clear R1 R3 Pg q' yU tm yo T1 T2 T3 N2 N3 kp2 kp3;rw[Jg]at e4;cases v2 with
  |false=>
   exact hG ⟨rg,.d .none,_,by dsimp! [e1,I1,I_,e2,dn rfl rfl rfl e3 rfl,I3,e4],N4,T4,.inr rfl⟩
  |true=>
   obtain⟨EM,e5,N5,T5⟩:=f60 (m-3) N4 T4 (by simp) (p1:=p1) (k1:=k1) (t1:=t1) (o1:=o1) (r1:=r1) (p2:=p2) (k2:=k2) (t2:=t2) (o2:=o2) (r2:=r2);obtain⟨LB,e6,N6,T6⟩:=f61 (m-3) N5 T5 (by have:=l60 o1 r1 o2 r2;rw[List.nil_append];omega) yA' yB' (p1:=p1) (t1:=t1) (o1:=o1) (r1:=r1) (p2:=p2) (t2:=t2) (o2:=o2) (r2:=r2);rw[show m-3+3=m by omega]at e5 e6;have l6:([]++wY o1 r1 o2 r2++vf (decide (k1=k2)) B.gD A.gD o2 r1 r2).length<=5:=by have:=l60 o1 r1 o2 r2;have:=l61 (decide (k1=k2)) B.gD A.gD o2 r1 r2;rw[dS,List.nil_append];omega
   clear N1 N4 N5 T4 T5 yA' yB';rw[List.nil_append]at N6 l6;by_cases c1:r2=1
   ·have d1:=kB (fg.mpr c1:(r2==1)=true);refine hG ⟨LB,.d .none,_,by dsimp! [e1,I1,I_,e2,dn rfl rfl rfl e3 rfl,I3,e4,e5,e6,d1],?_,T6,.inr rfl⟩;unfold Dz;rw[Bool.and_self,if_pos rfl,if_neg (λz=>z.1 c1),ej];exact N6
   ·have d1:=m5 (beq_eq_false_iff_ne.mpr c1:(r2==1)=false);obtain⟨pm7,tw7,e7,N7,T7⟩:=f31 m (HQ3 Jg) q3 N6 T6 hm3 SJ Ph () ();refine hG ⟨pm7,tw7,_,by dsimp! [e1,I1,I_,e2,dn rfl rfl rfl e3 rfl,I3,e4,e5,e6,d1,e7],?_,T7,.inr rfl⟩;unfold Dz;rw[Bool.and_self,if_pos rfl];by_cases c2:S.2=t2\/iS S.2 t2=true
    ·rw[if_pos c2]at N7;rw[ed c2,if_neg (λz=>nomatch z.2),ej];exact N7
    ·rw[if_neg c2,eI]at N7;rw[dU c2,if_pos ⟨c1,rfl⟩];exact N7
end
def ew(s:Int):Ty->Bool
 | .ko x=>x==s
 |_=>false
def FQ(s:Int)(K:Ty)(o2 r2:Int):List D:=(if r2=2\/(r2=0/\ew s K=false)then[kz 4]else[])++((if o2=1/\r2≠1 then[kz 3]else[])++(if o2=0/\ew s K=false then[kz 5]else[]))
theorem yX{s:Int}{K:Ty}:ew s K=true<->K= .ko s:=by
 cases K with
 |ko x=>exact fg.trans ⟨λh=>congrArg Ty.ko h,Ty.ko.inj⟩
 |_=>exact⟨λh=>noB h,λh=>Ty.noConfusion h⟩
theorem Pj(K:Ty)(s:Int):kc K.row [.int 14,.int s]=ew s K:=by cases K<;>first|rfl|exact wk _
theorem nr:∀l:List Int,dY (l.map .int)=0
 |[]=>rfl
 |x::l=>by show max (dj (.int x)) (dY (l.map .int))=0;rw[nr l];rfl
theorem Pk(K:Ty):qv (.tup K.row)=true:=by cases K<;>first|rfl|exact(wk _).trans (kF _)
theorem Pl(K:Ty):dj (.tup K.row)<=5:=by cases K<;>first|exact g5 rfl|(show max 0 (max (dY (List.map D.int _)+1) 0)+1<=5;rw[nr];exact g5 rfl)
section
variable{aa ay:List D}{k h b:Nat}{aE iS:Int->Int->Bool}{tw:PV}{aX:List D}{pm:List MO}
theorem Yk(n:Nat){c:Int}{r:List D}(hc:(c==8)=false):rn (n+1) 50 [.d (.tup (.int c::r))] pm []=some (.d (.bool false),pm,[]):=by
 rw[<-hc]
 dsimp! [hc]
theorem f53(n:Nat){s kk:Int}{K:Ty}(T:ah pm aa ay)(y:aD aa kk K):rn (n+1) 53 [.ax 0,.d (.int s),.d (.int kk)] pm []=some (.d (.bool (ew s K)),pm,[]):=by
 have q7:(K.kind==7)=false:=by cases K<;>rfl
 have rd:=Pk K;have dp:=Pl K;have g:(qv (.tup K.row)&&qv (.tup [.int 14,.int s])&&Nat.ble (min (dj (.tup K.row)) (dj (.tup [.int 14,.int s]))) 50)=true:=by rw[rd,UP (by have:=Nat.min_le_left (dj (.tup K.row)) (dj (.tup [.int 14,.int s]));omega)];rfl
 rw[<-Pj]
 dsimp! [m_ _,q7,↑g]
theorem f55(n:Nat){s p:Int}(T:ah pm aa ay)(ih:pm[h]?=some (.inst 3 bK))(y:aD aa s (.par p)):rn (n+1) 55 [.ax h,.d (.int s)] pm []=some (.d (.bool true),pm,[]):=by dsimp! [rfl]
theorem f52(n:Nat){s p kk ks:Int}(N:gZ k h b aE tw aX pm)(T:ah pm aa ay)(ln:aX.length<=1000)(lr:aa.length<=800000)(y:aD aa s (.par p))(z:aD aa ks (.ko s))(hn:6<=n):
  ∃aA,rn n 52 [.ax b,.d (.int s),.d (.int kk)] pm []=some (.d .none,aA,[])/\gZ k h b aE tw (aX++(if kk≠ks then[kz 5]else[])) aA/\ah aA aa ay:=by
 obtain⟨m,rfl⟩:∃m,n=m+3:=⟨n-3,()⟩;obtain⟨t0,kn,R,K,l⟩:=N.ex;have I:=R.iI;have ih:=N.ih;obtain⟨fR,e1,T1,K1⟩:=Yh m T ih (FI s) ();rw[show(D.tup [.int 14,.int s])= .tup (Ty.row (.ko s))from rfl,ng T.rs z]at e1 T1;have N1:=N.keep K1;obtain⟨t1,U9,R1,_,_⟩:=N1.ex;have I1:=R1.iI;have I_:=N1.ih;have e1:rn (m+2) 64 [.ax h,.d (.tup [.int 14,.int s])] pm []=some (.d (.int ks),fR,[]):=e1;by_cases c:kk=ks
 ·rw[if_neg (by simpa using c),ej];refine⟨fR,?_,N1,T1⟩
  dsimp! [e1,(fg.mpr c:(kk==ks)=true)]
 ·rw[if_pos c];obtain⟨dt,e2,N2,T2⟩:=tL (n:=m) (c:=5) N1 T1 ln;refine⟨dt,?_,N2,T2⟩
  dsimp! [I1,I_,e1,(beq_eq_false_iff_ne.mpr c:(kk==ks)=false),T1.i0,T1.i1,e2]
end
section
variable{aa ay:List D}{k h b:Nat}{aE iS:Int->Int->Bool}{tw:PV}{aX:List D}{pm:List MO}
theorem Vi(R:cz aa){kk ks s:Int}{K:Ty}(y:aD aa kk K)(z:aD aa ks (.ko s)):(kk=ks)<->ew s K=true:=by
 rw[yX];constructor
 ·intro e;subst e;have a:=y.at_;rw[z.at_]at a;have a:=D.tup.inj (fh a);cases K with
  |ko x=>exact congrArg Ty.ko (D.int.inj (List.cons.inj (List.cons.inj a).2).1).symm
  |_=>exact absurd (D.int.inj (List.cons.inj a).1) ∅
 ·intro e;subst e;have:=rq R.nd y.at_ z.at_;exact ob1 this y.nn z.nn
theorem f54(n:Nat){s p kk ks p2 t2 o2 r2:Int}{K:Ty}(N:gZ k h b aE tw aX pm)(T:ah pm aa ay)(ln:aX.length<=900)(lr:aa.length<=800000)(y:aD aa s (.par p))(z:aD aa ks (.ko s))(yK:aD aa kk K)(hn:10<=n):
  ∃aA,rn n 54 [.ax b,.d (.int s),.d (.tup (cq p2 kk t2 o2 r2))] pm []=some (.d (.bool true),aA,[])/\gZ k h b aE tw (aX++FQ s K o2 r2) aA/\ah aA aa ay:=by
 obtain⟨m,rfl⟩:∃m,n=m+3:=⟨n-3,()⟩;obtain⟨t0,kn,R,_,_⟩:=N.ex;have I:=R.iI;have ih:=N.ih;have e53:=f53 (m+1) (s:=s) T yK;have e55:=f55 (m+1) T ih y;let ls:Ls:=[some (.ax b),some (.d (.int s)),some (.d (.tup (cq p2 kk t2 o2 r2))),some (.d (.bool (decide (r2=0)&&ew s K)))];have s1:exec (aH (m+2)) (.asg 3 (.and #[.cmp .eq (.sub 'c' 6.0) 0.0,.call 53 #[.attr (.attr 'a' 22) 23,'b',.sub 'c' 2.0]])) [some (.ax b),some (.d (.int s)),some (.d (.tup (cq p2 kk t2 o2 r2))),none] ⟨pm,[]⟩=some (.next,ls,⟨pm,[]⟩):=by
  simp only[ls];rw[<-Jc];cases c:(r2==0)
  ·refine Eq.trans (b:=some (.next,[some (.ax b),some (.d (.int s)),some (.d (.tup (cq p2 kk t2 o2 r2))),some (.d (.bool (r2==0)))],⟨pm,[]⟩)) ?_ (by rw[c];rfl)
   dsimp! [c]
  ·dsimp! [c,e53]
 have ta:test (aH (m+2)) (.or #[.cmp .eq (.sub 'c' 6.0) 2.0,.and #[.cmp .eq (.sub 'c' 6.0) 0.0,.nt 'd',.call 55 #[.attr 'a' 22,'b']]]) ls ⟨pm,[]⟩=some (decide (r2=2\/(r2=0/\ew s K=false)),⟨pm,[]⟩):=by
  by_cases c1:r2=2
  ·rw[ed (.inl c1)]
   dsimp! [(fg.mpr c1:(r2==2)=true)]
  have d1:(r2==2)=false:=beq_eq_false_iff_ne.mpr c1;by_cases c2:r2=0
  ·have d2:(r2==0)=true:=fg.mpr c2;cases c3:ew s K
   ·rw[ed (.inr ⟨c2,rfl⟩)]
    dsimp! [d1,d2,(by rw[c3,Bool.and_false];rfl:(!(decide (r2=0)&&ew s K))=true),e55]
   ·rw[dU (by simp[c1])]
    dsimp! [d1,d2,(by rw[c3,ed c2];rfl:(!(decide (r2=0)&&ew s K))=false)]
  ·rw[dU (by simp[c1,c2])]
   dsimp! [d1,(beq_eq_false_iff_ne.mpr c2:(r2==0)=false)]
 have tb:∀σ,test (aH (m+2)) (.and #[.cmp .eq (.sub 'c' 5.0) 1.0,.cmp .ne (.sub 'c' 6.0) 1.0]) ls σ=some (decide (o2=1/\r2≠1),σ):=λσ=>by
  by_cases c1:o2=1
  ·have d1:(o2==1)=true:=fg.mpr c1;by_cases c2:r2=1
   ·rw[dU (λz=>z.2 c2)]
    dsimp! [d1,kB (fg.mpr c2:(r2==1)=true)]
   ·rw[ed ⟨c1,c2⟩]
    dsimp! [d1,m5 (beq_eq_false_iff_ne.mpr c2:(r2==1)=false)]
  ·rw[dU (λz=>c1 z.1)]
   dsimp! [(beq_eq_false_iff_ne.mpr c1:(o2==1)=false)]
 have tc:∀σ,test (aH (m+2)) (.cmp .eq (.sub 'c' 5.0) 0.0) ls σ=some (decide (o2=0),σ):=λσ=>by
  rw[<-Jc]
  dsimp! [rfl]
 obtain⟨fR,e1,N1,T1⟩:=iE (n:=m) (g:=39) (code:=4) rfl rfl ta N T ();have l1:=iD (c:=decide (r2=2\/(r2=0/\ew s K=false))=true) (x:=kz 4);obtain⟨dt,e2,N2,T2⟩:=iE (n:=m) (g:=26) (code:=3) rfl rfl (tb _) N1 T1 (by rw[dS];exact aW (hZ ln l1) ∅);have l2:=iD (c:=decide (o2=1/\r2≠1)=true) (x:=kz 3);obtain⟨iZ,e3,N3,T3⟩:=f52 (m+2) (kk:=kk) N2 T2 (by rw[dS,dS];exact aW (hZ (hZ ln l1) l2) ∅) lr y z ();have ke:=Vi T.rs yK z;have fin:∃rg,exec (aH (m+2)) (.ite (.cmp .eq (.sub 'c' 5.0) 0.0) #[.expr (.call 52 #['a','b',.sub 'c' 2.0])] .nil) ls ⟨dt,[]⟩=some (.next,ls,⟨rg,[]⟩)/\gZ k h b aE tw (aX++FQ s K o2 r2) rg/\ah rg aa ay:=by
  have tc:=tc ⟨dt,[]⟩;unfold FQ;rw[<-eI,<-eI];simp only[decide_eq_true_eq]at N2 N3;by_cases c1:o2=0
  ·rw[ed c1]at tc;refine⟨iZ,bI tc ?_,?_,T3⟩
   ·rw[av (qA (b_ (au (ak rfl) (au (ak rfl) (au (cY (ak rfl) aG rfl) bp))) (bX rfl e3)) rfl),aP]
   ·have h5:(if kk≠ks then[kz 5]else([]:List D))=(if o2=0/\ew s K=false then[kz 5]else[]):=by
     by_cases c2:kk=ks
     ·have c3:=ke.mp c2;rw[if_neg (by simpa using c2),if_neg (by simp[c3])]
     ·have c3:ew s K=false:=by
       cases c4:ew s K with
       |false=>rfl
       |true=>exact absurd (ke.mpr c4) c2
      rw[if_pos c2,if_pos ⟨c1,c3⟩]
    rw[h5]at N3;exact N3
  ·rw[dU c1]at tc;refine⟨dt,aS tc aP,?_,T2⟩;have h5:(if o2=0/\ew s K=false then[kz 5]else([]:List D))=[]:=if_neg (λq=>c1 q.1);rw[h5,ej];exact N2
 obtain⟨rg,e4,N4,T4⟩:=fin;refine⟨rg,?_,N4,T4⟩;rw[cG [some (.ax b),some (.d (.int s)),some (.d (.tup (cq p2 kk t2 o2 r2))),none] (show p8 54=some ⟨3,4,Oh⟩from rfl) rfl rfl];dsimp only;unfold Oh;rw[av s1,av e1,av e2,av e4,bS (fz aG)];rfl
end
def FR(FP:Bool)(r2:Int)(wide:Bool):List D:=(if FP=false then[kz 5]else[])++(if r2≠1 then(if wide=true then[kz 3,kz 4]else[kz 4])else[])
section
variable{aa ay:List D}{k h b:Nat}{aE iS:Int->Int->Bool}{tw:PV}{aX:List D}{pm:List MO}
theorem f56(n:Nat){me:List D×Int}{dq Ai Je:Int->Int->Prop}{mu Aj Jf:Int->Nat}{s p kk ks p2 t2 o2 r2 o:Int}{K:Ty}(Sh:bM aa (.tup [.int 15,.int s,.int o])=me)(N:gZ k h b aE (.d .none) [] pm)(T:ah pm aa ay)(hk:k<=10)(lr:aa.length<=700000)
  (y:aD aa s (.par p)) (z:aD aa ks (.ko s)) (wo:16<=ks) (yK:aD aa kk K) (yo:aD aa o (.par p2))
  (HQ:∀s t,dq s t->EL aa ay dq aE mu s t) (q:dq kk ks) (hm:mu kk+mu ks<=3)
  (Pg:∀x w,Ai x w->EL me.1 ay Ai aE Aj x w) (q':Ai me.2 t2) (yU:Aj me.2+Aj t2<=3)
  (HQ3:aE me.2 t2=true->∀x w,Je x w->u7 me.1 Je iS Jf x w) (q3:me.2≠t2->Je me.2 t2) (hm3:Jf me.2+Jf t2<=2)
  (SJ:me.2≠13) (Ph:t2≠13) (hn:50<=n):
  ∃aA Pe rf,rn n 56 [.ax b,.d (.int s),.d (.tup (cq p2 kk t2 o2 r2))] pm []=some (.d (.bool (aE kk ks&&aE me.2 t2)),aA,[])/\
   gZ (k+2) h b aE Pe (if aE kk ks&&aE me.2 t2 then FR (decide (kk=ks)) r2 (!decide (me.2=t2\/iS me.2 t2=true))else[]) aA/\ah aA rf ay/\(rf=aa\/rf=me.1):=by
 refine goP λG hG=>?_;obtain⟨m,rfl⟩:∃m,n=m+3:=⟨n-3,()⟩;obtain⟨t0,kn,R,_,_⟩:=N.ex;have I:=R.iI;have ih:=N.ih;obtain⟨fR,Vj,T1,K1⟩:=f47 (m-4) T ih N.h9 y z wo ();rw[show m-4+6=m+2 by omega]at Vj;have N1:=N.keep K1;obtain⟨dt,e2,N2,T2⟩:=Dw HQ q N1 T1 (by simp) () hm (n:=m+2) ();obtain⟨t1,U9,R1,_,_⟩:=N1.ex;have I1:=R1.iI;cases hv:aE kk ks with
 |false=>
  refine hG ?_;rw[hv,Bool.false_and,jj];refine⟨dt,.d .none,aa,?_,N2.up (),T2,.inl rfl⟩
  dsimp! [Vj,e2,m5 hv]
 |true=>
  have P:=cM T2.rs (fm s o);obtain⟨iZ,e3,T3,K3⟩:=O8 m T2 yo ();have N3:=N2.keep K3;obtain⟨rg,e4,T4,K4⟩:=Yh m T3 N3.ih (fm s o) ();have N4:=N3.keep K4;rw[Sh]at P e4 T4;obtain⟨t2',Sf,R2,_,_⟩:=N2.ex;have I2:=R2.iI;have ih2:=N2.ih;have ih3:=N3.ih;obtain⟨EM,e5,N5,T5⟩:=Dw Pg q' N4 T4 (by simp) () yU (n:=m+2) ();obtain⟨t4',U4,R4,_,_⟩:=N4.ex;have I4:=R4.iI;cases Jg:aE me.2 t2 with
  |false=>
   refine hG ?_;rw[hv,Jg,Bool.true_and,jj];refine⟨EM,.d .none,_,?_,N5,T5,.inr rfl⟩
   dsimp! [Vj,e2,kB hv,ih2,e3,e4,I4,e5,m5 Jg]
  |true=>
   replace hG:=λz=>hG (by rw[hv,Jg,Bool.true_and,lV];exact z)
   have y5:=y.pre P.pre;have z5:=z.pre P.pre;have ih5:=N5.ih;obtain⟨LB,e6,N6,T6⟩:=f52 (m+2) (kk:=kk) N5 T5 (by simp) (by have:=P.len;omega) y5 z5 ();have h5:(if kk≠ks then[kz 5]else([]:List D))=(if decide (kk=ks)=false then[kz 5]else[]):=by by_cases c2:kk=ks<;>simp[c2]
   rw[List.nil_append,h5]at N6;have l6:=iD (c:=decide (kk=ks)=false) (x:=kz 5);by_cases c1:r2=1
   ·refine hG ⟨LB,.d .none,_,?_,?_,T6,.inr rfl⟩
    ·dsimp! [Vj,e2,kB hv,ih2,e3,e4,I4,e5,kB Jg,ih5,T5.i0,T5.i1,↑y5.sm,↑y5.n0,y5.at_,e6,kB (fg.mpr c1:(r2==1)=true)]
    ·unfold FR;rw[if_neg (c:=r2≠1) (λz=>z c1),ej];exact N6
   ·obtain⟨pm7,tw7,e7,N7,T7⟩:=f31 (m+2) (HQ3 Jg) q3 N6 T6 hm3 SJ Ph () ();have ih7:=N7.ih;have e55:=f55 (m+1) T7 ih7 y5;obtain⟨t7',kn7,R7,_,_⟩:=N7.ex;have I7:=R7.iI;obtain⟨pm8,e8,N8,T8⟩:=tL (n:=m) (c:=4) N7 T7 (by
     split
     ·omega
     ·rw[dS];simp only[fw,List.length_nil];omega)
    refine hG ⟨pm8,tw7,_,?_,?_,T8,.inr rfl⟩
    ·dsimp! [Vj,e2,kB hv,ih2,e3,e4,I4,e5,kB Jg,ih5,T5.i0,T5.i1,↑y5.sm,↑y5.n0,y5.at_,e6,m5 (beq_eq_false_iff_ne.mpr c1:(r2==1)=false),e7,e55,I7,e8]
    ·unfold FR;by_cases c2:me.2=t2\/iS me.2 t2=true
     ·rw[if_pos c2]at N8;rw[if_pos (c:=r2≠1) c1,ed c2];exact N8
     ·rw[if_neg c2]at N8;rw[if_pos (c:=r2≠1) c1,dU c2];rw[eI]at N8;exact N8
end
section
variable{aa rf ay:List D}{k h b:Nat}{aE iS:Int->Int->Bool}{tw:PV}{aX:List D}{pm:List MO}
theorem f51m(n:Nat){s p1 k1 t1 o1 r1 p2 k2 t2 o2 r2 o:Int}{v:Bool}{fR:List MO}(e62:rn (n+4) 62 [.ax b,.d (.tup (cq p1 k1 t1 o1 r1)),.d (.tup (cq p2 k2 t2 o2 r2))] pm []=some (.d (.bool v),fR,[]))
  (N:gZ k h b aE tw aX fR) (T:ah fR rf ay) (yo:aD rf o (.par p2)) (ne:t2≠(bM rf (.tup [.int 15,.int s,.int o])).2) (lr:rf.length<=800000):
  ∃aA rf',rn (n+5) 51 [.ax b,.d (.int s),.d (.tup (cq p1 k1 t1 o1 r1)),.d (.tup (cq p2 k2 t2 o2 r2))] pm []=some (.d (.bool v),aA,[])/\gZ k h b aE tw aX aA/\ah aA rf' ay/\rf<+:rf'/\rf'.length<=rf.length+1:=by
 cases v with
 |true=>
  refine⟨fR,rf,?_,N,T,lK _,qT _⟩
  dsimp! [e62]
 |false=>
  obtain⟨t0,kn,R,_,_⟩:=N.ex;have I:=R.iI;have Si:=Yk (pm:=fR) (n+3) (c:=17) (r:=[.int p1,.int k1,.int (-1),.int t1,.int o1,.int r1]) rfl;have h9:=N.h9;have hb:=N.hb;obtain⟨dt,Pm,T2,K2⟩:=f48 (n+1) (s:=s) (row:=cq p2 k2 t2 o2 r2) T I () N.h9 N.ih rfl yo ();have ne':(t2==(bM rf (.tup [.int 15,.int s,.int o])).2)=false:=by simpa using ne
  have P:=cM T.rs (fm s o);by_cases c2:o2=2
  ·refine⟨fR,rf,?_,N,T,lK _,qT _⟩
   dsimp! [e62,(by rw[c2];rfl:(o2==1)=false),(by rw[c2];rfl:(o2==2)=true)]
  ·refine⟨dt,_,?_,N.keep K2,T2,P.pre,P.len⟩;have d2:(o2==2)=false:=beq_eq_false_iff_ne.mpr c2;cases c1:(o2==1)<;>dsimp! [e62,c1,Si,d2,Pm,ne']
theorem f51a(n:Nat){s p p2 k2 t2 o2 r2 o:Int}(N:gZ k h b aE tw aX pm)(c2:o2=2):
  rn (n+5) 51 [.ax b,.d (.int s),.d (.tup [.int 10,.int p]),.d (.tup (cq p2 k2 t2 o2 r2))] pm []=some (.d (.bool false),pm,[]):=by
 dsimp! [(by rw[c2];rfl:(o2==1)=false),(by rw[c2];rfl:(o2==2)=true)]
theorem f51c(n:Nat){s p p2 k2 t2 o2 r2 w:Int}{v:Bool}{fR iZ:List MO}(c2:o2≠2)(N:gZ k h b aE tw aX pm)(Pm:rn (n+4) 48 [.ax b,.d (.int s),.d (.tup (cq p2 k2 t2 o2 r2))] pm []=some (.d (.int w),fR,[]))(c3:t2=w)
  (e54:rn (n+4) 54 [.ax b,.d (.int s),.d (.tup (cq p2 k2 t2 o2 r2))] fR []=some (.d (.bool v),iZ,[])):
  rn (n+5) 51 [.ax b,.d (.int s),.d (.tup [.int 10,.int p]),.d (.tup (cq p2 k2 t2 o2 r2))] pm []=some (.d (.bool v),iZ,[]):=by
 have Si:=Yk (pm:=pm) (n+3) (c:=10) (r:=[.int p]) rfl;have d2:(o2==2)=false:=beq_eq_false_iff_ne.mpr c2;have d3:(t2==w)=true:=fg.mpr c3;cases c1:(o2==1)<;>dsimp! [c1,Si,d2,Pm,d3,e54]
theorem f51d(n:Nat){s p p2 k2 t2 r2 w:Int}{v:Bool}{fR iZ:List MO}(N:gZ k h b aE tw aX pm)(Pm:rn (n+4) 48 [.ax b,.d (.int s),.d (.tup (cq p2 k2 t2 0 r2))] pm []=some (.d (.int w),fR,[]))(c3:t2≠w)
  (Yl:rn (n+4) 56 [.ax b,.d (.int s),.d (.tup (cq p2 k2 t2 0 r2))] fR []=some (.d (.bool v),iZ,[])):
  rn (n+5) 51 [.ax b,.d (.int s),.d (.tup [.int 10,.int p]),.d (.tup (cq p2 k2 t2 0 r2))] pm []=some (.d (.bool v),iZ,[]):=by
 have Si:=Yk (pm:=pm) (n+3) (c:=10) (r:=[.int p]) rfl;have c3':(t2==w)=false:=by simpa using c3
 dsimp! [Pm,c3',Yl]
theorem f51e(n:Nat){s p p2 k2 t2 r2 w:Int}{fR:List MO}(N:gZ k h b aE tw aX pm)(Pm:rn (n+4) 48 [.ax b,.d (.int s),.d (.tup (cq p2 k2 t2 1 r2))] pm []=some (.d (.int w),fR,[]))(c3:t2≠w):
  rn (n+5) 51 [.ax b,.d (.int s),.d (.tup [.int 10,.int p]),.d (.tup (cq p2 k2 t2 1 r2))] pm []=some (.d (.bool false),fR,[]):=by
 have Si:=Yk (pm:=pm) (n+3) (c:=10) (r:=[.int p]) rfl;have c3':(t2==w)=false:=by simpa using c3
 dsimp! [Si,Pm,c3']
theorem f49a(n:Nat){t p1 k1 t1 o1 r1:Int}(c:o1=1):rn (n+5) 49 [.ax b,.d (.int t),.d (.tup (cq p1 k1 t1 o1 r1))] pm []=some (.d (.bool false),pm,[]):=by dsimp! [(by rw[c];rfl:(o1==1)=true)]
theorem f49(n:Nat){dq Ai:Int->Int->Prop}{mu Aj:Int->Nat}{t p1 k1 t1 o1 r1 kt o:Int}(c:o1≠1)(N:gZ k h b aE tw [] pm)(T:ah pm aa ay)(hk:k<=10)(lr:aa.length<=700000)
  (z:aD aa kt (.ko t)) (yo:aD aa o (.par p1))
  (HQ:∀s t,dq s t->EL aa ay dq aE mu s t) (q:dq kt k1) (hm:mu kt+mu k1<=3)
  (Pg:∀x w,Ai x w->EL (bM aa (.tup [.int 15,.int t,.int o])).1 ay Ai aE Aj x w) (q':Ai t1 (bM aa (.tup [.int 15,.int t,.int o])).2) (yU:Aj t1+Aj (bM aa (.tup [.int 15,.int t,.int o])).2<=3) (hn:50<=n):
  ∃aA rf,rn n 49 [.ax b,.d (.int t),.d (.tup (cq p1 k1 t1 o1 r1))] pm []=some (.d (.bool (aE kt k1&&aE t1 (bM aa (.tup [.int 15,.int t,.int o])).2)),aA,[])/\
   gZ (k+2) h b aE tw (if aE kt k1&&aE t1 (bM aa (.tup [.int 15,.int t,.int o])).2 then kz 15::(if r1=1 then[kz 4]else[])else[]) aA/\ah aA rf ay/\(rf=aa\/rf=(bM aa (.tup [.int 15,.int t,.int o])).1):=by
 refine goP λG hG=>?_;obtain⟨m,rfl⟩:∃m,n=m+5:=⟨n-5,()⟩;obtain⟨t0,kn,R,_,_⟩:=N.ex;have I:=R.iI;have ih:=N.ih;have h9:=N.h9;have hb:=N.hb;obtain⟨fR,e1,T1,K1⟩:=f4 (m+3) T (FI t) ();rw[show(D.tup [.int 14,.int t])= .tup (Ty.row (.ko t))from rfl,ng T.rs z]at e1 T1;have e1:rn (m+4) 4 [.ax 0,.d (.tup [.int 14,.int t])] pm []=some (.d (.int kt),fR,[]):=e1;have N1:=N.keep K1;obtain⟨t1',U9,R1,_,_⟩:=N1.ex;have I1:=R1.iI;obtain⟨dt,e2,N2,T2⟩:=Dw HQ q N1 T1 (by simp) () hm (n:=m+4) ();have P:=cM T2.rs (fm t o);obtain⟨t2',Sf,R2,_,_⟩:=N2.ex;have I2:=R2.iI;obtain⟨iZ,e3,T3,K3⟩:=f48 (m+1) (s:=t) (row:=cq p1 k1 t1 o1 r1) T2 I2 () N2.h9 N2.ih rfl yo ();have N3:=N2.keep K3;obtain⟨rg,e4,N4,T4⟩:=Dw Pg q' N3 T3 (by simp) () yU (n:=m+4) ();obtain⟨me,Sh⟩:∃me,me=bM aa (.tup [.int 15,.int t,.int o]):=⟨_,rfl⟩;rw[<-Sh]at Pg q' yU P e3 T3 e4 T4 hG;have c':(o1==1)=false:=by simpa using c
 obtain⟨t3',kn3,R3,_,_⟩:=N3.ex;have I3:=R3.iI;cases ha:aE kt k1 with
 |false=>
  rw[ha]at hG;refine hG ⟨dt,aa,?_,by rw[Bool.false_and,jj];exact N2.up (),T2,.inl rfl⟩
  dsimp! [c',e1,I1,e2,m5 ha]
 |true=>
  rw[ha,Bool.true_and]at hG;cases Vk:aE t1 me.2 with
  |false=>
   rw[Vk]at hG;refine hG ⟨rg,_,?_,by rw[jj];exact N4,T4,.inr rfl⟩
   dsimp! [c',e1,I1,e2,kB ha,I2,e3,e4,m5 Vk]
  |true=>
   rw[Vk,lV]at hG;obtain⟨EM,e5,N5,T5⟩:=tL (n:=m+2) (c:=15) N4 T4 (by simp);obtain⟨t4',U4,R4,_,_⟩:=N4.ex;have I4:=R4.iI;by_cases c1:r1=1
   ·obtain⟨LB,e6,N6,T6⟩:=tL (n:=m+2) (c:=4) N5 T5 (by simp);obtain⟨t5',kn5,R5,_,_⟩:=N5.ex;have I5:=R5.iI;rw[if_pos c1]at hG;refine hG ⟨LB,_,?_,N6,T6,.inr rfl⟩
    dsimp! [c',e1,I1,e2,kB ha,I2,e3,e4,kB Vk,I4,e5,(fg.mpr c1:(r1==1)=true),I5,e6]
   ·rw[if_neg c1]at hG;refine hG ⟨EM,_,?_,N5,T5,.inr rfl⟩
    dsimp! [c',e1,I1,e2,kB ha,I2,e3,e4,kB Vk,I4,e5,(beq_eq_false_iff_ne.mpr c1:(r1==1)=false)]
end
section
variable{aa rf ay:List D}{k h b:Nat}{aE iS:Int->Int->Bool}{tw:PV}{aX:List D}{pm:List MO}
def DA(c:Int):List (D×D)->List (D×D):=dput (.int c) (.int 0)
def i8:List Int->List (D×D)->List (D×D)
 |[],l=>l
 |c::r,l=>i8 r (DA c l)
def fV(cs:List Int):List D:=cs.map kz
def eN:Ss:=#[.ie 'b' 'c' 'd']
def lD(l:List (D×D)):Prop:=∀x∈l,∃i:Int,x.1= .int i
theorem Jh{c:Int}{l:List (D×D)}(h:lD l):jm (.int c) l=true:=by
 cases l with
 |nil=>rfl
 |cons x r=>
  obtain⟨i,e⟩:=h x (.head _);show(true&&Nat.beq (cy x.1) 1)=true;rw[e];rfl
theorem tM{c:Int}:∀{l:List (D×D)},lD l->lD (DA c l)
 |[],_=>λx hx=>by have hx:x∈[(D.int c,D.int 0)]:=hx;rw[jI]at hx;exact⟨c,by rw[hx]⟩
 |y::l,h=>λx hx=>by
  have hx:x∈(if bc (.int c) y.1 then(y.1,D.int 0)::l else y::DA c l):=hx;split at hx
  ·rcases dJ.mp hx with e|hx
   ·rw[e];exact h y (.head _)
   ·exact h x (.tail _ hx)
  ·rcases dJ.mp hx with e|hx
   ·rw[e];exact h y (.head _)
   ·exact tM (λz hz=>h z (.tail _ hz)) x hx
theorem LH{n a:Nat}{pm:List MO}:∀(cs:List Int) (l:List (D×D)) (x2 x3:Option PV),lD l->l.length+cs.length<=1000->
  ∃y2 y3,dO (λl s=>execs (aH n) eN l s) (qW [2,3]) (fV cs) [some (.ax a),some (.aI 0),x2,x3] ⟨pm,[.dict l]⟩=some (.next,[some (.ax a),some (.aI 0),y2,y3],⟨pm,[.dict (i8 cs l)]⟩)
 |[],l,x2,x3,_,_=>⟨x2,x3,rfl⟩
 |c::cs,l,x2,x3,hk,hl=>by
  have d:=Jh (c:=c) hk;have Yg:l.length<=1000000:=();have U0:(DA c l).length<=l.length+1:=kC _ _ _;obtain⟨y2,y3,e⟩:=LH (n:=n) (a:=a) (pm:=pm) cs (DA c l) (some (.d (.int c))) (some (.d (.int 0))) (tM hk) (by simp only[fw]at hl;omega);refine⟨y2,y3,?_⟩;have eb:execs (aH n) eN [some (.ax a),some (.aI 0),some (.d (.int c)),some (.d (.int 0))] ⟨pm,[.dict l]⟩=some (.next,[some (.ax a),some (.aI 0),some (.d (.int c)),some (.d (.int 0))],⟨pm,[.dict (DA c l)]⟩):=by dsimp! [Fv (pm:=pm) rfl d (cT Yg) rfl]
  show dO _ _ (kz c::fV cs) _ _=_;have ep:qW [2,3] (kz c) [some (.ax a),some (.aI 0),x2,x3]=some [some (.ax a),some (.aI 0),some (.d (.int c)),some (.d (.int 0))]:=by rfl
  exact fJ ep eb e
theorem f2(n:Nat){a c:Nat}{cs is:List Int}{pm:List MO}(ia:pm[a]?=some (.inst 1 [(0,.ax c)]))(ic:pm[c]?=some (.list (fV cs)))(hi:intsOf ((i8 cs []).map (·.1))=some is)(hl:is.length<60)(hc:cs.length<=900):
  rn (n+1) 2 [.ax a] pm []=some (.d (.lst ((sortI is).map .int)),pm,[]):=by
 obtain⟨y2,y3,e⟩:=LH (n:=n) (a:=a) (pm:=pm.set c .dead) cs [] none none (λ_ h=>nomatch h) (by simp;omega);have s1:exec (aH n) (.asg 1 (.sP .nil)) [some (.ax a),none,none,none] ⟨pm,[]⟩=some (.next,[some (.ax a),some (.aI 0),none,none],⟨pm,[.dict []]⟩):=by dsimp! [rfl]
 have ev:eval (aH n) (.attr 'a' 0) [some (.ax a),some (.aI 0),none,none] ⟨pm,[.dict []]⟩=some (.ax c,⟨pm,[.dict []]⟩):=by dsimp! [ia]
 have back:(pm.set c .dead).set c (.list (fV cs))=pm:=by rw[List.set_set,set_same ic]
 have s2:exec (aH n) (.yJ [2,3] (.attr 'a' 0) eN) [some (.ax a),some (.aI 0),none,none] ⟨pm,[.dict []]⟩=some (.next,[some (.ax a),some (.aI 0),y2,y3],⟨pm,[.dict (i8 cs [])]⟩):=by
  have io:dZ ⟨pm,[.dict []]⟩ (.ax c)=some (fV cs,⟨pm.set c .dead,[.dict []]⟩,.ax c (.list (fV cs))):=by exact itP ic
  refine(aq ev).trans ((aq io).trans ((aq e).trans ?_));show some (_,_,PS.mk ((pm.set c .dead).set c (.list (fV cs))) _)=_;rw[back]
 have f1:Nat.blt is.length 64=true:=Nat.blt_eq.mpr ();have f2:(sortI is).length<=1000000:=by rw[oG];omega
 have fZ:exec (aH n) (.ret (.bi .sorted 'b')) [some (.ax a),some (.aI 0),y2,y3] ⟨pm,[.dict (i8 cs [])]⟩=some (.ret (.aI 1),[some (.ax a),some (.aI 0),y2,y3],⟨pm,[.dict (i8 cs []),.list ((sortI is).map .int)]⟩):=by dsimp! [Lz rfl hi f1 (cT (by rw[eT];exact f2))]
 rw[cG [some (.ax a),none,none,none] (show p8 2=some ⟨1,4,Bd2⟩from rfl) rfl rfl];dsimp only;unfold Bd2;have s2':=s2;unfold eN at s2';rw[av s1,av s2',bS fZ];rfl
theorem f72(n:Nat){h:Nat}{m:Int}{pm:List MO}:rn (n+1) 72 [.ax pm.length] (pm++cO pm.length h m) []=some (.d .none,(pm++cO pm.length h m).set (pm.length+1) (.dict [(.int 2,.cin 4)]),[]):=by
 have i0:(pm++cO pm.length h m)[pm.length]?=some (.inst 2 (fQ pm.length (pm.length+4) h (pm.length+1) m true (.d .none) 0)):=nq;have i1:(pm++cO pm.length h m)[pm.length+1]?=some (.dict []):=by rw[yw ()];simp[cO]
 dsimp! [i0,Fu i1 rfl rfl rfl]
end
section
variable{aa ay:List D}{pm:List MO}
def hY(pm:List MO):List MO:=((pm++[MO.inst 3 bK])++cO (pm.length+1) pm.length 1).set (pm.length+2) (.dict [(.int 2,.cin 4)])
theorem oK{aE:Int->Int->Bool}(T:ah pm aa ay)(h9:9<=pm.length):gZ 0 pm.length (pm.length+1) aE (.d .none) [] (hY pm)/\ah (hY pm) aa ay:=by
 have g0:∀j,j<pm.length->(hY pm)[j]?=pm[j]?:=λj hj=>by unfold hY;rw[bq (),eI,mM hj]
 have g1:(hY pm)[pm.length]?=some (.inst 3 bK):=by unfold hY;rw[bq (),eI,yw ()];simp
 have g2:∀j,j≠1->(hY pm)[pm.length+1+j]?=(cO (pm.length+1) pm.length 1)[j]?:=λj hj=>by unfold hY;rw[bq (),yw (by simp<;>omega)];congr 1;simp<;>omega
 have g3:(hY pm)[pm.length+1+1]?=some (.dict [(.int 2,.cin 4)]):=by unfold hY;rw[dz,if_pos rfl,if_pos (by simp[cO])]
 refine⟨⟨⟨pm.length+1+4,[],⟨g2 0 ∅,g3,g2 2 ∅,g2 3 ∅,g2 4 ∅,g2 6 ∅,g2 7 ∅,.inl rfl,.inr rfl⟩,(λ_ h=>nomatch h),eJ _⟩,g1,h9,rfl⟩,⟨?_,?_,?_,?_,?_,?_,T.rs⟩⟩
 ·rw[g0 0 ()];exact T.i0
 ·rw[g0 1 ()];exact T.i1
 ·rw[g0 2 ()];exact T.i2
 ·rw[g0 4 ()];exact T.i4
 ·rw[g0 5 ()];exact T.i5
 ·rw[g0 6 ()];exact T.i6
theorem Vl(n:Nat){tm:List TO}{ls:Ls}(h2:ls[2]?= ~~~(.ax 0)):eval (aH (n+2)) (.new 2 #[.new 3 #['c'],1.0]) ls ⟨pm,tm⟩=some (.ax (pm.length+1),⟨(pm++[.inst 3 bK])++cO (pm.length+1) pm.length 1,tm⟩):=by have e2:=new2 (pm:=pm++[.inst 3 bK]) n (h:=pm.length) (m:=1) (tm:=tm);rw[show(pm++[MO.inst 3 bK]).length=pm.length+1 by simp]at e2;exact Fq (au (Fq (au (ak h2) bp) (new3 (n+1))) (au aG bp)) e2
theorem s_72(n:Nat){tm:List TO}:cJ ((aH (n+1)).fn 72) [.ax (pm.length+1)] ⟨(pm++[.inst 3 bK])++cO (pm.length+1) pm.length 1,tm⟩=some (.d .none,⟨hY pm,tm⟩):=by have e:=f72 n (pm:=pm++[.inst 3 bK]) (h:=pm.length) (m:=1);rw[show(pm++[MO.inst 3 bK]).length=pm.length+1 by simp]at e;exact bX rfl e
end
def DB:List D:=match l7 0 with
 |some (.tup l)=>l
 |_=>[]
def du:List D:=DB++[.tup [.int 10,.int 0],.tup [.int 10,.int 1],.tup [.int 14,.int 16],.tup [.int 10,.int 2],.tup [.int 3,.str [112],.int 0],.tup [.int 3,.str [113],.int 0],.tup [.int 6,.tup [.int 20,.int 21]],.tup [.int 14,.int 17],.tup [.int 10,.int 3],.tup [.int 10,.int 4]]
def w0:List D:=[.int (-1),.int 16,.int 18,.int 19,.int 22]
structure cu (aa ay:List D):Prop where
 rs:cz aa
 pre:du<+:aa
 Pn:w0<+:ay
theorem FU:du.length=26:=rfl
section
variable{aa ay:List D}
theorem lE{f:D->Bool}(hf:du.all f=true)(I:cu aa ay){x:Int}{r:D}(e:aa[x.toNat]?=some r)(nn:0<=x)(hr:f r=false):26<=x:=by
 by_cases h:x<26
 ·obtain⟨t,ht⟩:=I.pre;have hb:x.toNat<du.length:=by rw[FU];omega
  rw[<-ht,mM hb]at e;have:=bf.mp hf r (qO e);rw[hr]at this;cases this
 ·omega
def LI:D->Int
 | .tup (.int k::_)=>k
 |_=>0
def Po:D->Bool
 | .tup [.int 10,.int p]=>decide (p<5)
 |_=>true
theorem Pp:du.all Po=true:=by rfl
theorem Vm:du.all (λr=>LI r !=15)=true:=by rfl
theorem Vn:du.all (λr=>LI r !=17)=true:=by rfl
theorem Vo:du.all (λr=>!bc (fY 0) r)=true:=by rfl
theorem Vp:du.all (λr=>!bc (fY 1) r)=true:=by rfl
theorem Vq:du[5]?=some (fY 2):=by rfl
end
def jG(aa:List D)(r:D)(x:Int):Prop:=0<=x/\aa[x.toNat]?=some r
theorem jG.pre{a b:List D}(h:a<+:b){r:D}{x:Int}(p:jG a r x):jG b r x:=⟨p.1,va h p.2⟩
theorem jG.inj{a:List D}(R:cz a){r:D}{x y:Int}(p:jG a r x)(q:jG a r y):x=y:=by have:=rq R.nd p.2 q.2;exact ob1 ‹_› p.1 q.1
theorem jG.fn{a:List D}{r s:D}{x:Int}(p:jG a r x)(q:jG a s x):r=s:=by have:=p.2;rw[q.2]at this;exact(fh this).symm
theorem jR{aa:List D}{r:D}(R:cz aa)(h:dD r):jG (bM aa r).1 r (bM aa r).2:=⟨(cM R h).nn,(cM R h).at_⟩
theorem ny:∀(C:List D) (aa:List D),cz aa->(∀r∈C,dD r)->∀x∈(bj aa C).2,∃r∈C,jG (bj aa C).1 r x
 |[],_,_,_,_,h=>nomatch h
 |r::C,aa,R,ok,x,h=>by
  have P:=cM R (ok r (.head _));have Ji:∀s∈C,dD s:=λs hs=>ok s (.tail _ hs);have h:x∈(bM aa r).2::(bj (bM aa r).1 C).2:=h;rcases dJ.mp h with e|h
  ·rw[e];exact⟨r,.head _,(jR R (ok r (.head _))).pre (iC C _ P.rs Ji).2.1⟩
  ·obtain⟨s,hs,p⟩:=ny C _ P.rs Ji x h;exact⟨s,.tail _ hs,p⟩
theorem oN:∀(C:List D) (aa:List D),cz aa->(∀r∈C,dD r)->∀r∈C,∃x∈(bj aa C).2,jG (bj aa C).1 r x
 |[],_,_,_,_,h=>nomatch h
 |c::C,aa,R,ok,r,h=>by
  have P:=cM R (ok c (.head _));have Ji:∀s∈C,dD s:=λs hs=>ok s (.tail _ hs);rcases dJ.mp h with e|h
  ·rw[e];exact⟨_,.head _,(jR R (ok c (.head _))).pre (iC C _ P.rs Ji).2.1⟩
  ·obtain⟨x,hx,p⟩:=oN C _ P.rs Ji r h;exact⟨x,.tail _ hx,p⟩
theorem mq:∀(C:List D) (aa:List D),cz aa->(∀r∈C,dD r)->C.Nodup->(bj aa C).2.Nodup
 |[],_,_,_,_=>sV
 |c::C,aa,R,ok,nd=>by have P:=cM R (ok c (.head _));have Ji:∀s∈C,dD s:=λs hs=>ok s (.tail _ hs);rw[n_]at nd;show((bM aa c).2::(bj (bM aa c).1 C).2).Nodup;rw[n_];refine⟨λh=>?_,mq C _ P.rs Ji nd.2⟩;obtain⟨s,hs,p⟩:=ny C _ P.rs Ji _ h;have q:=(jR R (ok c (.head _))).pre (iC C _ P.rs Ji).2.1;rw[q.fn p]at nd;exact nd.1 hs
structure az.Ok (t:az):Prop where
 key:t.key<7
 opt:t.opt<3
 ro:t.ro<3
 mask:t.mask<8
 ne:0<t.mask\/t.mem=true
theorem kH{t:az}{o:Int}:∀r∈af t o,dD r:=by
 intro r hr;unfold af at hr;rcases pV.mp hr with h|h
 ·exact jQ _ r h
 ·split at h
  ·rw[jI.mp h];exact fm _ _
  ·exact nomatch h
theorem pG{t:az}{o:Int}:(af t o).Nodup:=by
 unfold af;rw[List.nodup_append];refine⟨?_,by split;exact n_.mpr ⟨yz,sV⟩;exact sV,λa ha b hb e=>?_⟩
 ·rw[gB,List.Nodup,List.pairwise_map];exact(List.Pairwise.filter _ (by decide:[0,1,2].Pairwise (·≠·))).imp_of_mem λ{x y} hx hy n e=>n (wW (FL (uC.mp hx).1) (FL (uC.mp hy).1) e)
 ·rw[gB]at ha;obtain⟨i,hi,q⟩:=qS.mp ha;have hi:=FL (uC.mp hi).1;split at hb
  ·rw[jI.mp hb,<-q]at e;rcases oa3 hi with g|g|g<;>rw[g]at e<;>exact ncf Jb e rfl
  ·exact nomatch hb
theorem FV:∀m<8,0<m->bit m 0=true\/bit m 1=true\/bit m 2=true:=∅
theorem FW{t:az}{o:Int}(ok:t.Ok):af t o≠[]:=by
 have u:∀i,i∈[0,1,2]->bit t.mask i=true->af t o≠[]:=λi hi hb=>List.ne_nil_of_mem (List.mem_append_left _ (by rw[gB];exact List.mem_map_of_mem (uC.mpr ⟨hi,hb⟩)));rcases ok.ne with h|h
 ·rcases FV _ ok.mask h with q|q|q
  ·exact u 0 ∅ q
  ·exact u 1 ∅ q
  ·exact u 2 ∅ q
 ·unfold af;rw[h,lV];exact List.append_ne_nil_of_right_ne_nil _ (List.cons_ne_nil _ _)
theorem DC{t:az}{o:Int}:(af t o).length<=4:=by unfold af;rw[dS];have lu:(bh t.mask [0,1,2]).length<=3:=kG (m:=t.mask) [0,1,2];split<;>simp only[fw,List.length_nil]<;>omega
theorem DD{m:Nat}{r:D}{l:List Nat}(h:r∈bh m l):∃i∈l,bit m i=true/\r=fY i:=by rw[gB]at h;obtain⟨i,hi,e⟩:=qS.mp h;exact⟨i,(uC.mp hi).1,(uC.mp hi).2,e.symm⟩
theorem w8{m:Nat}{r:D}(h:r∈bh m [0,1,2]):r=fY 0\/r=fY 1\/r=fY 2:=by
 obtain⟨i,hi,_,e⟩:=DD h;rw[e];rcases oa3 (FL hi)with e|e|e<;>subst e
 ·exact .inl rfl
 ·exact .inr (.inl rfl)
 ·exact .inr (.inr rfl)
theorem nz{t:az}{o:Int}{r:D}(h:r∈af t o):r=fY 0\/r=fY 1\/r=fY 2\/(t.mem=true/\r= .tup [.int 15,.int (if t.key=1 then 17 else 16),.int o]):=by
 unfold af at h;rcases pV.mp h with h|h
 ·rcases w8 h with e|e|e
  ·exact .inl e
  ·exact .inr (.inl e)
  ·exact .inr (.inr (.inl e))
 ·split at h
  ·rename_i hm;exact .inr (.inr (.inr ⟨hm,jI.mp h⟩))
  ·exact nomatch h
section
variable{aa ay:List D}
theorem cu.ext{e_:List D}(I:cu aa ay)(R:cz e_)(p:aa<+:e_):cu e_ ay:=⟨R,I.pre.trans p,I.Pn⟩
theorem ij(I:cu aa ay)(hl:aa.length<=800000){i:Nat}(hi:i=0\/i=1\/i=2){x:Int}(p:jG aa (fY i) x):g7 aa x/\(∃S:Ty,aD aa x S/\S.val=true)/\(x=5\/26<=x):=by
 have lt:x<900000:=ob6 hl (gf.mp p.2).1 p.1 rfl;have q:x=5\/26<=x:=by
  rcases hi with e|e|e<;>subst e
  ·exact .inr (lE Vo I p.2 p.1 rfl)
  ·exact .inr (lE Vp I p.2 p.1 rfl)
  ·exact .inl (p.inj I.rs (⟨by decide,va I.pre Vq⟩:jG aa (fY 2) 5))
 have y:∃S:Ty,aD aa x S/\S.val=true:=by
  rcases hi with e|e|e<;>subst e
  ·exact⟨.sL [97],⟨p.1,lt,p.2⟩,rfl⟩
  ·exact⟨.one,⟨p.1,lt,p.2⟩,rfl⟩
  ·exact⟨.kw [110,117,108,108],⟨p.1,lt,p.2⟩,rfl⟩
 refine⟨⟨?_,()⟩,y,q⟩;obtain⟨S,z,v⟩:=y;exact⟨S,z,by cases S<;>first|rfl|cases v⟩
theorem vg(I:cu aa ay)(hl:aa.length<=800000){a o:Int}{x:Int}(p:jG aa (.tup [.int 15,.int a,.int o]) x):g7 aa x/\aD aa x (.idx a o)/\26<=x:=by have lt:x<900000:=ob6 hl (gf.mp p.2).1 p.1 rfl;have q:=lE Vm I p.2 p.1 rfl;have y:aD aa x (.idx a o):=⟨p.1,lt,p.2⟩;exact⟨⟨⟨_,y,rfl⟩,()⟩,y,q⟩
end
structure ju (aa:List D) (C:List D) (tp:Int) (ae:List Int):Prop where
 m1:∀x∈ae,∃r∈C,jG aa r x
 m2:∀r∈C,∃x∈ae,jG aa r x
 nd:ae.Nodup
 ne:ae≠[]
 le:ae.length<=4
 num:ae=[tp]\/(aD aa tp (.un ae)/\2<=ae.length)
theorem ju.pre{a b:List D}(h:a<+:b){C:List D}{tp:Int}{ae:List Int}(t:ju a C tp ae):ju b C tp ae:=
 ⟨λx hx=>by obtain⟨r,hr,p⟩:=t.m1 x hx;exact⟨r,hr,p.pre h⟩,λr hr=>by obtain⟨x,hx,p⟩:=t.m2 r hr;exact⟨x,hx,p.pre h⟩,t.nd,t.ne,t.le,t.num.imp id λz=>⟨z.1.pre h,z.2⟩⟩
theorem w9{l:List Int}(h:l.Nodup):(sortI l).Nodup:=(sortI_perm l).nodup_iff.mpr h
theorem Ak{aa C:List D}{ae:List Int}(R:cz aa)(hl:aa.length<=700000)(m1:∀x∈ae,∃r∈C,jG aa r x)(m2:∀r∈C,∃x∈ae,jG aa r x)(nd:ae.Nodup)(ne:ae≠[])(le:ae.length<=4):
  ju (s_ aa ae).1 C (s_ aa ae).2 (sortI ae)/\cz (s_ aa ae).1/\aa<+:(s_ aa ae).1/\(s_ aa ae).1.length<=aa.length+1:=by
 have O7:=oG ae;have n1:∀x∈sortI ae,∃r∈C,jG aa r x:=λx hx=>m1 x (oH.mp hx);have n2:∀r∈C,∃x∈sortI ae,jG aa r x:=λr hr=>by obtain⟨x,hx,p⟩:=m2 r hr;exact⟨x,oH.mpr hx,p⟩
 have nds:=w9 nd;have nes:sortI ae≠[]:=λe=>by rw[e]at O7;exact ne (Bl.mp O7.symm)
 unfold s_;generalize hs:sortI ae=l at*
 cases l with
 |nil=>exact absurd rfl nes
 |cons x r=>
  cases r with
  |nil=>exact⟨⟨n1,n2,nds,nes,by rw[O7];exact le,.inl rfl⟩,R,lK _,qT _⟩
  |cons w r=>
   have ok:=Af (x::w::r);have P:=cM R ok;have ty:aD (bM aa (.tup [.int 6,.tup ((x::w::r).map .int)])).1 (bM aa (.tup [.int 6,.tup ((x::w::r).map .int)])).2 (.un (x::w::r)):=ri.ty (S:= .un (x::w::r)) P ();refine⟨ju.mk (λz hz=>by obtain⟨s,hs,p⟩:=n1 z hz;exact⟨s,hs,p.pre P.pre⟩) (λs hs=>by obtain⟨z,hz,p⟩:=n2 s hs;exact⟨z,hz,p.pre P.pre⟩) nds nes (by rw[O7];exact le) (.inr ⟨ty,by simp⟩),P.rs,P.pre,P.len⟩
section
variable{aa ay:List D}
structure jv (aa:List D) (t:az) (pid:Nat) (num o tp:Int) (ae:List Int):Prop where
 own:aD aa o (.par pid)
 o26:26<=o
 tm:ju aa (af t o) tp ae
 at_:jG aa (vd pid (fT[t.key]?.getD 0) tp t.opt t.ro) num
 pZ:26<=num
theorem tN(I:cu aa ay)(hl:aa.length<=800000){t:az}{o x:Int}{r:D}(hr:r∈af t o)(p:jG aa r x):g7 aa x:=by
 rcases nz hr with e|e|e|⟨_,e⟩<;>rw[e]at p
 ·exact(ij I hl (.inl rfl) p).1
 ·exact(ij I hl (.inr (.inl rfl)) p).1
 ·exact(ij I hl (.inr (.inr rfl)) p).1
 ·exact(vg I hl p).1
theorem Pq(I:cu aa ay){t:az}(ok:t.Ok)(hl:aa.length<=600000)(hp:5<=ay.length)(Ym:ay.length<=1000):
  ((∀x∈(bj (bD aa ay.length).1 (af t (bD aa ay.length).2)).2,g7 (bj (bD aa ay.length).1 (af t (bD aa ay.length).2)).1 x)/\
   (bj (bD aa ay.length).1 (af t (bD aa ay.length).2)).2.Nodup/\(bj (bD aa ay.length).1 (af t (bD aa ay.length).2)).2≠[])/\
  (∃o tp ae,jv (wX aa ay.length t).1 t ay.length (wX aa ay.length t).2 o tp ae)/\cz (wX aa ay.length t).1/\aa<+:(wX aa ay.length t).1/\(wX aa ay.length t).1.length<=aa.length+12:=by
 have PO:=cM I.rs (u9 ay.length);have PO:ri aa (bD aa ay.length).1 (.tup [.int 10,.int ay.length]) (bD aa ay.length).2:=PO;have IO:=I.ext PO.rs PO.pre;have o26:=lE Pp IO PO.at_ PO.nn (by show decide ((ay.length:Int)<5)=false;rw[dU];omega);have yo:aD (bD aa ay.length).1 (bD aa ay.length).2 (.par ay.length):=ri.ty (S:= .par ay.length) PO ();generalize ho:(bD aa ay.length).2=o at*
 have lO:=PO.len;obtain⟨RP,pP,lP⟩:=iC (af t o) (bD aa ay.length).1 PO.rs kH;have pl:=DC (t:=t) (o:=o);have IP:=IO.ext RP pP;have m1:=ny (af t o) (bD aa ay.length).1 PO.rs kH;have m2:=oN (af t o) (bD aa ay.length).1 PO.rs kH;have nd:=mq (af t o) (bD aa ay.length).1 PO.rs kH pG;have ln:=jr (af t o) (bD aa ay.length).1;have ne:(bj (bD aa ay.length).1 (af t o)).2≠[]:=λe=>by rw[e]at ln;exact FW ok (Bl.mp ln.symm)
 have hA:∀x∈(bj (bD aa ay.length).1 (af t o)).2,g7 (bj (bD aa ay.length).1 (af t o)).1 x:=λx hx=>by obtain⟨r,hr,p⟩:=m1 x hx;exact tN IP () hr p
 refine⟨⟨hA,nd,ne⟩,?_⟩;obtain⟨tm,RT,pT,lT⟩:=Ak RP (aW lP (aW (hZ (aW lO (oh hl)) pl) ∅)) m1 m2 nd ne (by rw[ln];exact pl);have IT:=IP.ext RT pT;have hT:pF aa ay.length t=s_ (bj (bD aa ay.length).1 (af t o)).1 (bj (bD aa ay.length).1 (af t o)).2:=by unfold pF;rw[ho]
 unfold wX;rw[hT];generalize s_ (bj (bD aa ay.length).1 (af t o)).1 (bj (bD aa ay.length).1 (af t o)).2=U at*
 have okm:=FN ay.length (fT[t.key]?.getD 0) U.2 t.opt t.ro;have PM:=cM RT okm;have IM:=IT.ext PM.rs PM.pre;refine⟨⟨o,U.2,_,⟨yo.pre (pP.trans (pT.trans PM.pre)),o26,tm.pre PM.pre,jR RT okm,?_⟩⟩,PM.rs,PO.pre.trans (pP.trans (pT.trans PM.pre)),aW PM.len (aW (oh (aW lT (oh (aW lP (hZ lO pl))))) (eU (show 7<=12 by decide) _))⟩;exact lE Vn IM PM.at_ PM.nn rfl
end
def FX(w:Int)(r:D):Option D->D
 |some o=> .tup [.int 15,.int (dI o),.int w]
 |none=>r
def dE(w:Int)(r:D):D:=FX w r (td 15 r)
theorem FY(w:Int):∀i,dE w (fY i)=fY i
 |0=>rfl
 |1=>rfl
 |_+2=>rfl
theorem jT(w:Int){m:Nat}:∀l,(bh m l).map (dE w)=bh m l
 |[]=>rfl
 |i::l=>by
  rw[lB];split
  ·rw[kg,FY,jT w l]
  ·exact jT w l
theorem oO{t:az}{o w:Int}:af t w=(af t o).map (dE w):=by unfold af;rw[uD,jT];cases t.mem<;>rfl
section
variable{aa:List D}{w:Int}{pid:Int}
theorem FZ(R:cz aa){x:Int}{r:D}(p:jG aa r x):ji aa w x=bM aa (dE w r):=by
 have hp:bM aa r=(aa,x):=by rw[rx R p.2,wg p.1]
 rw[vb p.2];show subQ aa w x (td 15 r)=bM aa (FX w r (td 15 r));cases td 15 r with
 |none=>exact hp.symm
 |some o=>rfl
theorem tO{r:D}(h:dD r):dD (dE w r):=by
 show dD (FX w r (td 15 r));cases td 15 r with
 |none=>exact h
 |some o=>exact fm _ _
theorem tP:∀(ae:List Int) (aa:List D),cz aa->∀(rs:List D),rs.length=ae.length->(∀q∈ae.zip rs,jG aa q.2 q.1)->iB aa w ae=bj aa (rs.map (dE w))
 |[],aa,_,rs,h,_=>by
  cases rs with
  |nil=>rfl
  |cons=>cases h
 |x::ae,aa,R,rs,h,hp=>by
  cases rs with
  |nil=>cases h
  |cons r rs=>
   have p:=hp (x,r) (by simp);have e:=FZ (w:=w) R p;have ok:dD r:=R.ok r (qO p.2);have P:=cM R (tO (w:=w) ok);have ih:=tP ae (bM aa (dE w r)).1 P.rs rs (by simpa using h) (λq hq=>(hp q (by rw[sS];exact .tail _ hq)).pre P.pre);show((iB (ji aa w x).1 w ae).1,(ji aa w x).2::(iB (ji aa w x).1 w ae).2)=_;rw[e,ih];rfl
theorem DE{C:List D}{tp:Int}{ae:List Int}(T:ju aa C tp ae):∃rs:List D,rs.length=ae.length/\(∀q∈ae.zip rs,jG aa q.2 q.1)/\(∀r∈rs,r∈C):=by
 have:∀l:List Int,(∀x∈l,x∈ae)->∃rs:List D,rs.length=l.length/\(∀q∈l.zip rs,jG aa q.2 q.1)/\(∀r∈rs,r∈C):=λl=>by
  induction l with
  |nil=>intro _;exact⟨[],rfl,(λq h=>by simp at h),(λr h=>by simp at h)⟩
  |cons x l ih=>
   intro h;obtain⟨rs,a,b,c⟩:=ih λy hy=>h y (.tail _ hy);obtain⟨r,hr,p⟩:=T.m1 x (h x (.head _));refine⟨r::rs,by simp[a],λq hq=>?_,λs hs=>?_⟩
   ·rw[sS]at hq;rcases dJ.mp hq with e|hq
    ·rw[e];exact p
    ·exact b q hq
   ·rcases dJ.mp hs with e|hs
    ·rw[e];exact hr
    ·exact c s hs
 exact this ae λ_ h=>h
end
section
variable{aa ay:List D}{w o p1 p2 tp:Int}{ae:List Int}{t:az}
theorem Al{x:Int}{S:Ty}(I:cu aa ay)(h:aD du x S):aD aa x S:=h.pre I.pre
theorem tyT:aD du 16 (.par 0):=⟨by decide,∅,rfl⟩
theorem tyU:aD du 17 (.par 1):=⟨by decide,∅,rfl⟩
theorem Pt(I:cu aa ay)(hl:aa.length<=800000)(T:ju aa (af t o) tp ae)(yo:aD aa o (.par p1))(h5:5<=p1):∀x∈ae,nh aa p1 x:=by
 intro x hx;obtain⟨r,hr,p⟩:=T.m1 x hx;rcases nz hr with e|e|e|⟨_,e⟩<;>rw[e]at p
 ·obtain⟨S,y,v⟩:=(ij I hl (.inl rfl) p).2.1;exact .unit S y v
 ·obtain⟨S,y,v⟩:=(ij I hl (.inr (.inl rfl)) p).2.1;exact .unit S y v
 ·obtain⟨S,y,v⟩:=(ij I hl (.inr (.inr rfl)) p).2.1;exact .unit S y v
 ·by_cases hk:t.key=1
  ·rw[if_pos hk]at p;exact .idx 17 1 o (vg I hl p).2.1 (Al I tyU) () yo
  ·rw[if_neg hk]at p;exact .idx 16 0 o (vg I hl p).2.1 (Al I tyT) () yo
theorem map_inj{f:D->D}:∀{l:List D},(l.map f).Nodup->∀a∈l,∀b∈l,f a=f b->a=b
 |[],_,_,h,_,_,_=>nomatch h
 |x::l,nd,a,ha,b,hb,e=>by
  rw[kg,n_]at nd;rcases dJ.mp ha with ea|ha<;>rcases dJ.mp hb with eb|hb
  ·rw[ea,eb]
  ·exact absurd (by rw[<-ea,e];exact List.mem_map_of_mem hb) nd.1
  ·exact absurd (by rw[<-eb,<-e];exact List.mem_map_of_mem ha) nd.1
  ·exact map_inj nd.2 a ha b hb e
theorem tQ{f:D->D}:∀{l:List D},l.Nodup->(∀a∈l,∀b∈l,f a=f b->a=b)->(l.map f).Nodup
 |[],_,_=>sV
 |x::l,nd,h=>by rw[n_]at nd;rw[kg,n_];refine⟨λhm=>?_,tQ nd.2 λa ha b hb=>h a (.tail _ ha) b (.tail _ hb)⟩;obtain⟨y,hy,e⟩:=qS.mp hm;have:=h x (.head _) y (.tail _ hy) e.symm;rw[this]at nd;exact nd.1 hy
theorem Am:∀{ae:List Int} {rs:List D},rs.length=ae.length->∀r∈rs,∃x∈ae,(x,r)∈ae.zip rs
 |[],[],_,_,h=>nomatch h
 |_::_,[],h,_,_=>by cases h
 |[],_::_,h,_,_=>by cases h
 |x::ae,r::rs,h,s,hs=>by
  rcases dJ.mp hs with e|hs
  ·exact⟨x,.head _,by rw[sS,e];exact .head _⟩
  ·obtain⟨y,hy,z⟩:=Am (by simpa using h) s hs;exact⟨y,.tail _ hy,by rw[sS];exact .tail _ z⟩
theorem w_:∀{ae:List Int} {rs:List D},rs.length=ae.length->∀x∈ae,∃r∈rs,(x,r)∈ae.zip rs
 |[],[],_,_,h=>nomatch h
 |_::_,[],h,_,_=>by cases h
 |[],_::_,h,_,_=>by cases h
 |x::ae,r::rs,h,s,hs=>by
  rcases dJ.mp hs with e|hs
  ·exact⟨r,.head _,by rw[sS,e];exact .head _⟩
  ·obtain⟨y,hy,z⟩:=w_ (by simpa using h) s hs;exact⟨y,.tail _ hy,by rw[sS];exact .tail _ z⟩
theorem tR(R:cz aa):∀{ae:List Int} {rs:List D},rs.length=ae.length->(∀q∈ae.zip rs,jG aa q.2 q.1)->ae.Nodup->rs.Nodup
 |[],[],_,_,_=>sV
 |_::_,[],h,_,_=>by cases h
 |[],_::_,h,_,_=>by cases h
 |x::ae,r::rs,h,hz,nd=>by rw[sS]at hz;rw[n_]at nd⊢;refine⟨λhm=>?_,tR R (by simpa using h) (λq hq=>hz q (.tail _ hq)) nd.2⟩;obtain⟨y,hy,z⟩:=Am (by simpa using h) r hm;have a:jG aa r x:=hz (x,r) (.head _);have b:jG aa r y:=hz (y,r) (.tail _ z);rw[a.inj R b]at nd;exact nd.1 hy
end
section
variable{aa ay:List D}{w o p1 p2 tp:Int}{ae:List Int}{t:az}
theorem DF{pid:Int}(y:nh aa pid tp):jo aa w tp=ji aa w tp:=by
 cases y with
 |unit S y v=>exact(qD y.at_).trans (by cases S<;>first|exact noB v|rfl)
 |idx o po p y yo ne yp=>exact qD y.at_
theorem DG{C:List D}{pid:Int}(T:ju aa C tp ae)(hs:∀x∈ae,nh aa pid x):jo aa w tp=s_ (iB aa w ae).1 (iB aa w ae).2:=by
 rcases T.num with e|⟨y,_⟩
 ·subst e;rw[DF (hs tp (.head _))];rfl
 ·have at_:=y.at_;unfold jo;rw[at_];show(match intsOf (ae.map .int)with|some ae=>_|none=>_)=_;rw[iz]
theorem F1(I:cu aa ay)(hl:aa.length<=600000)(T:ju aa (af t o) tp ae)(yo:aD aa o (.par p1))(h5:5<=p1):
  Ja aa p1 w tp/\(∃qh,ju (jo aa w tp).1 (af t w) (jo aa w tp).2 qh)/\cz (jo aa w tp).1/\aa<+:(jo aa w tp).1/\(jo aa w tp).1.length<=aa.length+5:=by
 have hs:=Pt I () T yo h5;have le:=T.le;rw[DG T hs];obtain⟨rs,r1,r2,r3⟩:=DE T;have ef:=tP (w:=w) ae aa I.rs rs r1 r2;have Yn:∀r∈rs.map (dE w),dD r:=λr hr=>by obtain⟨s,hs,e⟩:=qS.mp hr;rw[<-e];exact tO (kH s (r3 s hs))
 have ndw:((af t o).map (dE w)).Nodup:=by rw[<-oO];exact pG
 have ndM:(rs.map (dE w)).Nodup:=tQ (tR I.rs r1 r2 T.nd) λa ha b hb=>map_inj ndw a (r3 a ha) b (r3 b hb);have s1:∀r∈rs.map (dE w),r∈af t w:=λr hr=>by obtain⟨s,hs,e⟩:=qS.mp hr;rw[<-e,oO (o:=o)];exact List.mem_map_of_mem (r3 s hs)
 have s2:∀r∈af t w,r∈rs.map (dE w):=λr hr=>by rw[oO (o:=o)]at hr;obtain⟨c,hc,e⟩:=qS.mp hr;obtain⟨x,hx,p⟩:=T.m2 c hc;obtain⟨c',hc',hz⟩:=w_ r1 x hx;have:c'=c:=(r2 _ hz).fn p;rw[<-e,<-this];exact List.mem_map_of_mem hc'
 obtain⟨RP,pP,lP⟩:=iC (rs.map (dE w)) aa I.rs Yn;have ln:(bj aa (rs.map (dE w))).2.length=ae.length:=by rw[jr,eT,r1]
 have m1:=ny (rs.map (dE w)) aa I.rs Yn;have m2:=oN (rs.map (dE w)) aa I.rs Yn;have nd:=mq (rs.map (dE w)) aa I.rs Yn ndM;have ne:(bj aa (rs.map (dE w))).2≠[]:=λe=>by rw[e]at ln;exact T.ne (Bl.mp ln.symm)
 rw[eT,r1]at lP;have IP:=I.ext RP pP;rw[ef];have hA:∀x∈(bj aa (rs.map (dE w))).2,g7 (bj aa (rs.map (dE w))).1 x:=λx hx=>by obtain⟨r,hr,p⟩:=m1 x hx;exact tN IP () (s1 r hr) p
 obtain⟨tm,RT,pT,lT⟩:=Ak (C:=af t w) RP () (λx hx=>by obtain⟨r,hr,p⟩:=m1 x hx;exact⟨r,s1 r hr,p⟩) (λr hr=>m2 r (s2 r hr)) nd ne ();refine⟨?_,⟨_,tm⟩,RT,pP.trans pT,aW lT (oh (aW lP (eU le _)))⟩;rcases T.num with e|⟨y,_⟩
 ·exact .atom (hs tp (by rw[e];exact .head _))
 ·exact .un ae y hs (by rw[ef];exact hA) (by rw[ef];exact nd) (by rw[ef];exact ne) le
end
def TA(aa:List D)(P:Int->Prop)(x:Int):Prop:=(x=5\/26<=x)/\∃S,aD aa x S/\(S.val=true\/((∃a b,S= .idx a b)/\P x))
def TV(aa:List D)(P:Int->Prop)(x:Int):Prop:=TA aa P x\/((x=5\/26<=x)/\∃ae,aD aa x (.un ae)/\2<=ae.length/\ae.length<=4/\ae.Nodup/\∀z∈ae,TA aa P z)
def nB(aa:List D)(x:Int):List Int:=match aa[x.toNat]? with
 |some (.tup [.int 6,.tup l])=>(intsOf l).getD []
 |_=>[x]
def eR(aa:List D)(x y:Int):Bool:=(nB aa x).all λz=>(nB aa y).contains z
def fE(aa:List D)(x y:Int):Bool:=eR aa x y&&eR aa y x
def tf(aa:List D)(x:Int):Nat:=if nB aa x=[x]then 0 else 1
section
variable{aa ay:List D}{P:Int->Prop}{x y:Int}
theorem TA.ae(h:TA aa P x):nB aa x=[x]:=by
 obtain⟨_,S,y,v⟩:=h;have at_:=y.at_;unfold nB;rw[at_];rcases v with v|⟨⟨a,b,e⟩,_⟩
 ·cases S<;>first|(cases v;done)|rfl
 ·subst e;rfl
theorem mr{ae:List Int}(h:aD aa x (.un ae)):nB aa x=ae:=by have at_:=h.at_;unfold nB;rw[at_];show(intsOf (ae.map .int)).getD []=ae;rw[iz];rfl
theorem Pu{ae:List Int}(h:2<=ae.length):ae≠[x]:=λe=>by rw[e]at h;simp at h
theorem TA.mu(h:TA aa P x):tf aa x=0:=by unfold tf;rw[if_pos h.ae]
theorem An{ae:List Int}(h:aD aa x (.un ae))(h2:2<=ae.length):tf aa x=1:=by unfold tf;rw[mr h,if_neg (Pu h2)]
theorem oP:tf aa x<=1:=by unfold tf;split<;>omega
theorem xa(a b:Int):[b].contains a=decide (a=b):=by by_cases h:a=b<;>simp[h]
theorem jw:eR aa x x=true:=by unfold eR;rw[bf];intro z hz;simpa using hz
theorem TA.sub(h:TA aa P x)(y:Int):eR aa x y=(nB aa y).contains x:=by unfold eR;rw[h.ae];simp
theorem yY{aE:Int->Int->Bool}(ha:∀x y,(x=5\/26<=x)->aE x y=eR aa x y):∀s t,(TV aa (λ_=>True) s/\TV aa (λ_=>True) t)->EL aa ay (λs t=>TV aa (λ_=>True) s/\TV aa (λ_=>True) t) aE (tf aa) s t:=by
 intro s t ⟨hs,ht⟩;have rs:s=5\/26<=s:=by rcases hs with h|h<;>exact h.1
 have rt:t=5\/26<=t:=by rcases ht with h|h<;>exact h.1
 have oL:z8 s:=by unfold z8;omega
 have oR:pE t:=by unfold pE;omega
 have Pw:∀{x:Int},TV aa (λ_=>True) x->∃S,aD aa x S:=λh=>by
  rcases h with h|h
  ·obtain⟨_,S,y,_⟩:=h;exact⟨S,y⟩
  ·obtain⟨_,ae,y,_⟩:=h;exact⟨_,y⟩
 by_cases e:s=t
 ·obtain⟨S,yS⟩:=Pw hs;obtain⟨T,yT⟩:=Pw ht;exact⟨S,T,yS,yT,oL,oR,λh=>absurd h (),.same e (by rw[ha s t rs,e];exact jw)⟩
 ·rcases hs with hs|⟨_,ae,yS,l2,l4,nd,hA⟩
  ·have Px:=hs;obtain⟨_,S,yS,vS⟩:=hs;have nu:S.fX=false:=by
    rcases vS with v|⟨⟨a,b,e⟩,_⟩
    ·cases S<;>first|rfl|cases v
    ·subst e;rfl
   have par:OW ay (λs t=>TV aa (λ_=>True) s/\TV aa (λ_=>True) t) aE (tf aa) s t S false:=by
    rcases vS with v|⟨⟨a,b,e⟩,_⟩
    ·cases S<;>first|rfl|cases v
    ·subst e;rfl
   rcases ht with ht|⟨_,hV,yT,l2,l4,nd,hA⟩
   ·have hf:aE s t=false:=by rw[ha s t rs,Px.sub,ht.ae,xa,dU e]
    obtain⟨_,T,yT,vT⟩:=ht;have nt:T.fX=false:=by
     rcases vT with v|⟨⟨a,b,e⟩,_⟩
     ·cases T<;>first|rfl|cases v
     ·subst e;rfl
    refine⟨S,T,yS,yT,oL,oR,λh=>absurd h (),?_⟩;rcases vS with v|⟨⟨a,b,e'⟩,_⟩
    ·rcases vT with v'|⟨⟨a,b,e'⟩,_⟩
     ·exact .val e v v' hf
     ·exact .df e nu nt (.inr (by rw[e'];rfl)) par hf
    ·exact .df e nu nt (.inl (by rw[e'];rfl)) par hf
   ·refine⟨S,.un hV,yS,yT,oL,oR,λh=>absurd h (),.to (par:=false) e nu l4 (λx hx=>⟨⟨.inl Px,.inl (hA x hx)⟩,?_⟩) par ?_⟩
    ·rw[(hA x hx).mu,An yT l2];decide
    ·rw[ha s t rs,Px.sub,mr yT,Bool.or_false];have:(hV.any λx=>aE s x)=hV.contains s:=by
      rw[jd,uA,jH];constructor
      ·rintro⟨x,hx,h⟩;rw[ha s x rs,Px.sub,(hA x hx).ae,xa,dK]at h;rw[h];exact hx
      ·intro h;exact⟨s,h,by rw[ha s s rs];exact jw⟩
     rw[this,Bool.or_self]
  ·obtain⟨T,yT⟩:=Pw ht;refine⟨.un ae,T,yS,yT,oL,oR,λh=>absurd h (),.un e l4 (λx hx=>⟨⟨.inl (hA x hx),ht⟩,by rw[(hA x hx).mu,An yS l2];decide⟩) ?_⟩;rw[ha s t rs];unfold eR;rw[mr yS];rw[jd,bf,bf];refine forall_congr' λx=>forall_congr' λhx=>?_;rw[ha x t (hA x hx).1,(hA x hx).sub]
theorem F2{ae:List Int}(nd:ae.Nodup)(h2:2<=ae.length)(x:Int):¬(∀z∈ae,z=x):=λh=>by
 cases ae with
 |nil=>simp at h2
 |cons a r=>cases r with
  |nil=>simp at h2
  |cons b r=>
   rw[n_]at nd;exact nd.1 (by rw[h a (.head _),<-h b (.tail _ (.head _))];exact .head _)
theorem Ao{me:Int}:∀s t,(TV aa (λz=>z=me) s/\TV aa (λz=>z=me) t)->u7 aa (λs t=>TV aa (λz=>z=me) s/\TV aa (λz=>z=me) t) (fE aa) (tf aa) s t:=by
 intro s t ⟨hs,ht⟩;have rs:s=5\/26<=s:=by rcases hs with h|h<;>exact h.1
 have rt:t=5\/26<=t:=by rcases ht with h|h<;>exact h.1
 have oS:pE s:=by unfold pE;omega
 have oR:pE t:=by unfold pE;omega
 have one:∀{x y:Int} {hV:List Int},TA aa (λz=>z=me) x->aD aa y (.un hV)->2<=hV.length->hV.Nodup->eR aa y x=false:=λ{x y hV} hx yT l2 nd=>by rw[<-Bool.not_eq_true];intro h;unfold eR at h;rw[mr yT,hx.ae,bf]at h;exact F2 nd l2 x λz hz=>by have:=h z hz;rw[xa,dK]at this;exact this
 have sm:∀{x:Int} {S:Ty},s=t->aD aa s S->u7 aa (λs t=>TV aa (λz=>z=me) s/\TV aa (λz=>z=me) t) (fE aa) (tf aa) s t:=λ{x S} e y=>by subst e;exact⟨S,S,y,y,oS,oR,.same rfl (by unfold fE;rw[jw];rfl)⟩
 rcases hs with hs|⟨_,ae,yS,l2,l4,nd,hA⟩
 ·have Px:=hs;obtain⟨_,S,yS,vS⟩:=hs;by_cases e:s=t
  ·exact sm (x:=s) e yS
  rcases ht with ht|⟨_,hV,yT,l2,l4,nd,hA⟩
  ·have hf:fE aa s t=false:=by unfold fE;rw[Px.sub,ht.ae,xa,dU e];rfl
   obtain⟨_,T,yT,vT⟩:=ht;rcases vS with v|⟨_,p⟩
   ·exact⟨S,T,yS,yT,oS,oR,.val e (.inl v) hf⟩
   ·rcases vT with v|⟨_,p'⟩
    ·exact⟨S,T,yS,yT,oS,oR,.val e (.inr v) hf⟩
    ·exact absurd (p.trans p'.symm) e
  ·refine⟨S,.un hV,yS,yT,oS,oR,.one e ?_ ?_⟩
   ·rcases vS with v|⟨⟨a,b,e⟩,_⟩
    ·cases S<;>first|rfl|cases v
    ·subst e;rfl
   ·unfold fE;rw[one Px yT l2 nd,Bool.and_false]
 ·by_cases e:s=t
  ·exact sm (x:=s) e yS
  rcases ht with ht|⟨_,hV,yT,m2,m4,nd',hB⟩
  ·have ht0:=ht;obtain⟨_,T,yT,vT⟩:=ht;refine⟨.un ae,T,yS,yT,oS,oR,.one e ?_ ?_⟩
   ·rcases vT with v|⟨⟨a,b,e⟩,_⟩
    ·cases T<;>first|rfl|cases v
    ·subst e;rfl
   ·unfold fE;rw[one ht0 yS l2 nd];rfl
  ·have aux:∀{ae hV:List Int},(∀z∈ae,TA aa (λz=>z=me) z)->(∀z∈hV,TA aa (λz=>z=me) z)->(ae.all λz=>hV.contains z)=ae.all λx=>hV.any λy=>fE aa x y:=λ{ae hV} hA hB=>by
    rw[jd,bf,bf];refine forall_congr' λx=>forall_congr' λhx=>?_;rw[jH,uA];constructor
    ·intro h;exact⟨x,h,by unfold fE;rw[jw];rfl⟩
    ·rintro⟨y,hy,h⟩;unfold fE at h;rw[(hA x hx).sub,(hB y hy).ae,xa,bx,dK]at h;rw[h.1];exact hy
   refine⟨.un ae,.un hV,yS,yT,oS,oR,.un e l4 m4 (λx hx y hy=>⟨⟨.inl (hA x hx),.inl (hB y hy)⟩,⟨.inl (hB y hy),.inl (hA x hx)⟩,?_,?_⟩) ?_⟩
   ·rw[(hA x hx).mu,An yS l2];decide
   ·rw[(hB y hy).mu,An yT m2];decide
   ·unfold fE eR;rw[mr yS,mr yT,aux hA hB,aux hB hA];rfl
end
def Py:D->Bool
 | .tup [.int 6,.tup (.int z::_)]=>decide (z≠5/\z<26)
 |_=>true
theorem Vr:du.all Py=true:=by decide+kernel
def bN(k:Nat):Int:=if k=1 then 17 else 16
section
variable{aa ay:List D}{P:Int->Prop}{x o tp l9:Int}{ae qh:List Int}{t t':az}
theorem Ap(I:cu aa ay)(hl:aa.length<=800000)(hP:∀z,jG aa (.tup [.int 15,.int (bN t.key),.int o]) z->t.mem=true->P z){r:D}(hr:r∈af t o)(p:jG aa r x):TA aa P x:=by
 rcases nz hr with e|e|e|⟨m,e⟩<;>rw[e]at p
 ·have u:=ij I hl (.inl rfl) p;obtain⟨S,y,v⟩:=u.2.1;exact⟨u.2.2,S,y,.inl v⟩
 ·have u:=ij I hl (.inr (.inl rfl)) p;obtain⟨S,y,v⟩:=u.2.1;exact⟨u.2.2,S,y,.inl v⟩
 ·have u:=ij I hl (.inr (.inr rfl)) p;obtain⟨S,y,v⟩:=u.2.1;exact⟨u.2.2,S,y,.inl v⟩
 ·have u:=vg I hl p;exact⟨.inr u.2.2,_,u.2.1,.inr ⟨⟨_,_,rfl⟩,hP x p m⟩⟩
theorem gN(I:cu aa ay)(hl:aa.length<=800000)(hP:∀z,jG aa (.tup [.int 15,.int (bN t.key),.int o]) z->t.mem=true->P z)(T:ju aa (af t o) tp ae):TV aa P tp:=by
 have at_:∀x∈ae,TA aa P x:=λx hx=>by obtain⟨r,hr,p⟩:=T.m1 x hx;exact Ap I hl hP hr p
 rcases T.num with e|⟨y,l2⟩
 ·exact .inl (at_ tp (by rw[e];exact .head _))
 ·refine .inr ⟨.inr ?_,ae,y,l2,T.le,T.nd,at_⟩;refine lE Vr I y.at_ y.nn ?_;cases ae with
  |nil=>simp at l2
  |cons a r=>
   show decide (a≠5/\a<26)=false;rw[EU];have:=(at_ a (.head _)).1;omega
theorem xb(I:cu aa ay)(hl:aa.length<=800000)(T:ju aa (af t o) tp ae):nB aa tp=ae:=by
 rcases T.num with e|⟨y,l2⟩
 ·rw[e];obtain⟨r,hr,p⟩:=T.m1 tp (by rw[e];exact .head _);exact(Ap (P:=λ_=>True) I hl (λ_ _ _=>trivial) hr p).ae
 ·exact mr y
theorem kI(I:cu aa ay)(hl:aa.length<=800000)(T:ju aa (af t o) tp ae)(T':ju aa (af t' o) l9 qh):eR aa tp l9=true<->∀r∈af t o,r∈af t' o:=by
 unfold eR;rw[xb I hl T,xb I hl T',bf];constructor
 ·intro h r hr;obtain⟨x,hx,p⟩:=T.m2 r hr;have:=h x hx;rw[jH]at this;obtain⟨r',hr',p'⟩:=T'.m1 x this;rw[p.fn p'];exact hr'
 ·intro h x hx;obtain⟨r,hr,p⟩:=T.m1 x hx;obtain⟨x',hx',p'⟩:=T'.m2 r (h r hr);rw[jH,p.inj I.rs p'];exact hx'
end
def tg(a b:Nat):Bool:=(!bit a 0||bit b 0)&&((!bit a 1||bit b 1)&&(!bit a 2||bit b 2))
def cD(t t':az):Bool:=tg t.mask t'.mask&&(!t.mem||(t'.mem&&decide (bN t.key=bN t'.key)))
theorem ry{t:az}{o:Int}{i:Nat}(hi:i<3):fY i∈af t o<->bit t.mask i=true:=by
 unfold af;rw[pV,gB,qS];refine⟨λh=>?_,λh=> .inl ⟨i,uC.mpr ⟨(by decide:∀i<3,i∈[0,1,2]) i hi,h⟩,rfl⟩⟩;rcases h with⟨j,hj,e⟩|h
 ·rw[<-wW (FL (uC.mp hj).1) hi e];exact(uC.mp hj).2
 ·split at h
  ·have e:=jI.mp h;rcases oa3 hi with g|g|g<;>rw[g]at e<;>exact ncf Jb e rfl
  ·exact nomatch h
theorem jU{t:az}{o a:Int}:(D.tup [.int 15,.int a,.int o])∈af t o<->(t.mem=true/\a=bN t.key):=by
 unfold af;rw[pV];refine⟨λh=>?_,λh=> .inr ?_⟩
 ·rcases h with h|h
  ·rcases w8 h with e|e|e<;>exact ncf Jb e rfl
  ·split at h
   ·rename_i q;have e:=jI.mp h;injection e with e;injection e with _ e;injection e with e _;exact⟨q,D.int.inj e⟩
   ·exact nomatch h
 ·rw[h.1,lV,h.2];exact .head _
theorem gU{t t':az}{o:Int}:(∀r∈af t o,r∈af t' o)<->cD t t'=true:=by
 unfold cD tg;constructor
 ·intro h;have u:∀i,i<3->(!bit t.mask i||bit t'.mask i)=true:=λi hi=>by
   cases q:bit t.mask i with
   |false=>rfl
   |true=>rw[(ry hi).mp (h _ ((ry hi).mpr q))];rfl
  rw[u 0 ∅,u 1 ∅,u 2 ∅];cases q:t.mem with
  |false=>rfl
  |true=>
   obtain⟨a,b⟩:=jU.mp (h _ (jU.mpr ⟨q,rfl⟩));rw[a,ed b];rfl
 ·intro h r hr;simp only[bx,mO,pY,dK]at h;obtain⟨⟨h0,h1,h2⟩,h3⟩:=h;have u:∀i,i<3->(bit t.mask i=false\/bit t'.mask i=true)->fY i∈af t o->fY i∈af t' o:=λi hi hb hm=>by
   rw[ry hi]at hm⊢;rw[hm]at hb;rcases hb with hb|hb
   ·cases hb
   ·exact hb
  rcases nz hr with e|e|e|⟨m,e⟩
  ·rw[e]at hr⊢;exact u 0 ∅ h0 hr
  ·rw[e]at hr⊢;exact u 1 ∅ h1 hr
  ·rw[e]at hr⊢;exact u 2 ∅ h2 hr
  ·rw[e];rcases h3 with h3|⟨h3,h4⟩
   ·rw[m]at h3;cases h3
   ·exact jU.mpr ⟨h3,h4⟩
def kTys:List (Int×Ty):=[(1,.kw [117,110,107,110,111,119,110]),(16,.par 0),(17,.par 1),(18,.ko 16),(19,.par 2),(20,.sL [112]),(21,.sL [113]),(22,.un [20,21]),(23,.ko 17),(24,.par 3),(25,.par 4)]
def rz(x:Int):Ty:=match kTys.find? λp=>p.1==x with
 |some p=>p.2
 |none=> .one
def pH:List Int:=[1,16,17,18,19,20,21,22,23,24,25]
def Vs:List (Int×Int):=[(17,16),(19,18),(24,19),(24,18),(25,22),(20,22),(21,22)]
def d7(s t:Int):Bool:=s==t||Vs.contains (s,t)
def DH(y z:Int):Nat:=if z=y/\z≠22 then 0 else if z=17\/z=24\/z=25 then 2 else if z=16\/z=19\/z=22 then 1 else 0
def Vt(y:Int):List Int:=if y=16\/y=17 then[1,16,17]else[18,23,19,24,25,22,20,21]
def Vu(y:Int):List Int:=if y=22 then[22,20,21]else[y]
def EN(y s t:Int):Bool:=(Vt y).contains s&&(Vu y).contains t
def Jj(dq:Int->Int->Bool)(mu:Int->Nat)(s t b:Int):Option Bool:=
 if b=s then some false else if dq b t=true/\mu b<mu s then some (d7 b t)else none
def parR(dq:Int->Int->Bool)(mu:Int->Nat)(s t p:Int):D->Option Bool
 | .int b=>if 0<=p/\p<900000 then Jj dq mu s t (if b<0\/b=0 then 1 else b)else none
 |_=>none
def Jk(dq:Int->Int->Bool)(mu:Int->Nat)(s t:Int):Ty->Option Bool
 | .par p=>ai (parR dq mu s t p) w0[p.toNat]?
 |_=>some false
def Vv(dq:Int->Int->Bool)(mu:Int->Nat)(s t:Int)(S:Ty)(par:Bool):Ty->Bool
 | .un ae=>decide (ae.length<=4)&&((ae.all λx=>dq s x&&decide (mu x<mu t))&&(d7 s t==(ae.contains s||ae.any (λx=>d7 s x)||par)))
 |T=>((S.df||T.df)&&(d7 s t==par))||((S.val&&T.val)&&!d7 s t)
def LJ(dq:Int->Int->Bool)(mu:Int->Nat)(s t:Int)(S T:Ty):Option Bool->Bool
 |none=>false
 |some par=>Vv dq mu s t S par T
def tT(dq:Int->Int->Bool)(mu:Int->Nat)(s t:Int)(S T:Ty):Bool:=
 if s=t then d7 s t else match S with
 | .un ae=>decide (ae.length<=4)&&((ae.all λx=>dq x t&&decide (mu x<mu s))&&(d7 s t==ae.all λx=>d7 x t))
 |S=>LJ dq mu s t S T (Jk dq mu s t S)
def Jl(y s t:Int):Bool:=tT (EN y) (DH y) s t (rz s) (rz t)&&(decide ((s=1\/16<=s)/\16<=t/\s<26/\s≠5/\(s=1->(rz t).df=true))&&(pH.contains s&&pH.contains t))
def pI:List Int:=[18,23,19,24,25,22,20,16,17]
theorem Jm:(pI.all λy=>(Vt y).all λs=>(Vu y).all λt=>Jl y s t)=true:=by decide+kernel
theorem Aq{y s t:Int}(hy:y∈pI)(h:EN y s t=true):Jl y s t=true:=by unfold EN at h;rw[bx,jH,jH]at h;exact bf.mp (bf.mp (bf.mp Jm y hy) s h.1) t h.2
section
variable{aa ay:List D}{aE:Int->Int->Bool}{y:Int}
theorem jV{x:Int}(h:x∈pH):aD du x (rz x):=by simp only[pH,dJ,yz,or_false]at h;rcases h with h|h|h|h|h|h|h|h|h|h|h<;>subst h<;>exact⟨by decide,∅,rfl⟩
theorem F3(I:cu aa ay){j:Nat}{r:D}(h:w0[j]?=some r):ay[j]?=some r:=va I.Pn h
theorem Jn{dq:Int->Int->Bool}{mu:Int->Nat}(I:cu aa ay){s t:Int}(ha:∀x,dq x t=true->aE x t=d7 x t){S:Ty}{par:Bool}(h:Jk dq mu s t S=some par):OW ay (λs t=>dq s t=true) aE mu s t S par:=by
 cases S with
 |par p=>
  refine aL h λr hb h=>?_;cases r<;>first|exact noS h|skip
  ·rename_i b;have h:(if 0<=p/\p<900000 then Jj dq mu s t (if b<0\/b=0 then 1 else b)else none)=some par:=h;by_cases hp:0<=p/\p<900000
   ·rw[if_pos hp]at h;refine⟨b,hp.1,hp.2,F3 I hb,?_,?_⟩
    ·intro e;unfold Jj at h;rw[if_pos e]at h;exact(fh h).symm
    ·intro e;unfold Jj at h;rw[if_neg e]at h;by_cases hd:dq (if b<0\/b=0 then 1 else b) t=true/\mu (if b<0\/b=0 then 1 else b)<mu s
     ·rw[if_pos hd]at h;exact⟨hd.1,hd.2,by rw[ha _ hd.1];exact(fh h).symm⟩
     ·rw[if_neg hd]at h;cases h
   ·rw[if_neg hp]at h;exact noS h
 |_=>exact(fh h).symm
theorem all_congr{l:List Int}{f g:Int->Bool}(h:∀x∈l,f x=g x):l.all f=l.all g:=by rw[jd,bf,bf];exact forall_congr' λx=>forall_congr' λhx=>by rw[h x hx]
theorem any_congr{l:List Int}{f g:Int->Bool}(h:∀x∈l,f x=g x):l.any f=l.any g:=by rw[jd,uA,uA];exact exists_congr λx=>and_congr_right λhx=>by rw[h x hx]
theorem F4{dq:Int->Int->Bool}{mu:Int->Nat}(I:cu aa ay)(ha:∀x t,dq x t=true->aE x t=d7 x t){s t:Int}(hq:dq s t=true){S T:Ty}(h:tT dq mu s t S T=true):Step ay (λs t=>dq s t=true) aE mu s t S T:=by
 have Vw:=ha s t hq;by_cases e:s=t
 ·unfold tT at h;rw[if_pos e]at h;exact .same e (by rw[Vw];exact h)
 ·have main:S.fX=false->tT dq mu s t S T=LJ dq mu s t S T (Jk dq mu s t S):=λnu=>by unfold tT;rw[if_neg e];cases S<;>first|rfl|cases nu
  cases nu:S.fX with
  |true=>
   cases S<;>first|(cases nu;done)|skip
   rename_i ae;unfold tT at h;rw[if_neg e]at h;simp only[bx,dK,bf,fg]at h;obtain⟨h1,h2,h3⟩:=h;refine .un e h1 h2 ?_;rw[Vw,h3];exact all_congr λx hx=>(ha x t (h2 x hx).1).symm
  |false=>
   rw[main nu]at h;cases hp:Jk dq mu s t S with
   |none=>rw[hp]at h;cases h
   |some par=>
    rw[hp]at h;have p:=Jn (aE:=aE) I (λx hx=>ha x t hx) hp;cases nt:T.fX with
    |true=>
     cases T<;>first|(cases nt;done)|skip
     rename_i ae;have h:(decide (ae.length<=4)&&((ae.all λx=>dq s x&&decide (mu x<mu t))&&(d7 s t==(ae.contains s||ae.any (λx=>d7 s x)||par))))=true:=h;simp only[bx,dK,bf,fg]at h;obtain⟨h1,h2,h3⟩:=h;refine .to e nu h1 h2 p ?_;rw[Vw,h3,any_congr λx hx=>(ha s x (h2 x hx).1).symm]
    |false=>
     have h:(((S.df||T.df)&&(d7 s t==par))||((S.val&&T.val)&&!d7 s t))=true:=by cases T<;>first|exact h|cases nt
     simp only[mO,bx,fg,pY]at h;rcases h with⟨h1,h2⟩|⟨⟨h1,h2⟩,h3⟩
     ·exact .df e nu nt h1 p (by rw[Vw,h2])
     ·exact .val e h1 h2 (by rw[Vw,h3])
theorem vh(I:cu aa ay)(ha:∀x t,x<26->x≠5->aE x t=d7 x t)(hy:y∈pI):∀s t,EN y s t=true->EL aa ay (λs t=>EN y s t=true) aE (DH y) s t:=by intro s t hq;have hc:=Aq hy hq;unfold Jl at hc;simp only[bx,dK,jH]at hc;obtain⟨c1,⟨c2,c3,c4,c5,c6⟩,c7,c8⟩:=hc;refine⟨rz s,rz t,(jV c7).pre I.pre,(jV c8).pre I.pre,by unfold z8;omega,by unfold pE;omega,c6,F4 I (λx w hx=>?_) hq c1⟩;have hc:=Aq hy hx;unfold Jl at hc;simp only[bx,dK]at hc;exact ha x w hc.2.1.2.2.1 hc.2.1.2.2.2.1
end
def nk(k:Nat):Int:=fT[k]?.getD 0
def kp(k1 k2:Nat):Int×Int:=kq (rz (nk k1)) (rz (nk k2)) (nk k2) (nk k1)
def Sj(k1 k2:Nat):Bool:=d7 (kp k1 k2).1 (kp k1 k2).2
def R7:List Nat:=[0,1,2,3,4,5,6]
theorem iF{k:Nat}(h:k<7):k∈R7:=by have:k=0\/k=1\/k=2\/k=3\/k=4\/k=5\/k=6:=();unfold R7;simpa using this
theorem Pz:(R7.all λa=>R7.all λb=>decide ((kp a b).2∈pI/\EN (kp a b).2 (kp a b).1 (kp a b).2=true/\DH (kp a b).2 (kp a b).1+DH (kp a b).2 (kp a b).2<=3/\(kp a b).1<26/\(kp a b).1≠5))=true:=by decide+kernel
theorem Vx{a b:Nat}(ha:a<7)(hb:b<7):(kp a b).2∈pI/\EN (kp a b).2 (kp a b).1 (kp a b).2=true/\DH (kp a b).2 (kp a b).1+DH (kp a b).2 (kp a b).2<=3/\(kp a b).1<26/\(kp a b).1≠5:=by have:=bf.mp (bf.mp Pz a (iF ha)) b (iF hb);exact of_decide_eq_true this
theorem PA:(R7.all λa=>R7.all λb=>decide (nk a∈pI/\nk a∈pH/\16<=nk a/\EN (nk a) (nk b) (nk a)=true/\DH (nk a) (nk b)+DH (nk a) (nk a)<=3/\nk b<26/\nk b≠5/\(nk a=nk b<->a=b)))=true:=by decide+kernel
theorem rA{a b:Nat}(ha:a<7)(hb:b<7):nk a∈pI/\nk a∈pH/\16<=nk a/\EN (nk a) (nk b) (nk a)=true/\DH (nk a) (nk b)+DH (nk a) (nk a)<=3/\nk b<26/\nk b≠5/\(nk a=nk b<->a=b):=by have:=bf.mp (bf.mp PA a (iF ha)) b (iF hb);exact of_decide_eq_true this
def gs(rf:List D)(x y:Int):Bool:=if x=5\/26<=x then eR rf x y else d7 x y
theorem oQ{rf:List D}:∀x y,(x=5\/26<=x)->gs rf x y=eR rf x y:=λx y h=>if_pos h
theorem oT{rf:List D}:∀x y,x<26->x≠5->gs rf x y=d7 x y:=λx y h h'=>if_neg ()
theorem F5:(R7.all λa=>(rz (nk a)).gD==decide (a<2))=true:=by decide+kernel
theorem F6{k:Nat}(h:k<7):(rz (nk k)).gD=decide (k<2):=cj (bf.mp F5 k (iF h))
def rB(t t':az):Bool:=(!decide (i7 t'.opt<i7 t.opt)&&Sj t.key t'.key)&&cD t t'
def F7(t t':az):List D:=Dz (wY t.opt t.ro t'.opt t'.ro) (vf (decide (t.key=t'.key)) (decide (t'.key<2)) (decide (t.key<2)) t'.opt t.ro t'.ro) t'.ro (!(cD t t'&&cD t' t))
section
variable{aa ay:List D}{h b:Nat}{pm:List MO}{t t':az}{p p':Nat}{num mv o o' tp l9:Int}{ae qh:List Int}
theorem jv.pre{e_:List D}(hp:aa<+:e_)(L:jv aa t p num o tp ae):jv e_ t p num o tp ae:=⟨L.own.pre hp,L.o26,L.tm.pre hp,L.at_.pre hp,L.pZ⟩
theorem Ar{P:Int->Prop}{x:Int}(h:TV aa P x):x≠13:=by
 rcases h with h|h
 ·have:=h.1;omega
 ·have:=h.1;omega
theorem PB{P:Int->Prop}{x:Int}(h:TV aa P x):x=5\/26<=x:=by
 rcases h with h|h
 ·exact h.1
 ·exact h.1
theorem F8(T:ju aa (af t o) tp ae){a c:Int}(p:jG aa (.tup [.int 15,.int a,.int c]) tp):t.mem=true/\a=bN t.key/\c=o/\ae=[tp]:=by
 rcases T.num with e|⟨y,_⟩
 ·obtain⟨r,hr,q⟩:=T.m1 tp (by rw[e];exact .head _);have:=q.fn p;rw[this]at hr;rcases nz hr with e'|e'|e'|⟨m,e'⟩
  ·cases e'
  ·cases e'
  ·cases e'
  ·injection e' with e1;injection e1 with _ e2;injection e2 with e3 e4;injection e4 with e5 _;injection e3 with e6;injection e5 with e7;exact⟨m,e6,e7,e⟩
 ·have:=p.2;rw[y.at_]at this;cases this
theorem Vy(R:cz aa)(r:D):∃me:Int,∀z,jG aa r z->z=me:=by
 by_cases h:∃z,jG aa r z
 ·obtain⟨z,hz⟩:=h;exact⟨z,λw hw=>hw.inj R hz⟩
 ·exact⟨0,λw hw=>absurd ⟨w,hw⟩ h⟩
theorem vi(I:cu aa ay)(hl:aa.length<=800000)(T:ju aa (af t o) tp ae)(T':ju aa (af t' o) l9 qh):decide (tp=l9\/fE aa tp l9=true)=(cD t t'&&cD t' t):=by
 have e:fE aa tp l9=(cD t t'&&cD t' t):=by
  unfold fE;have a:eR aa tp l9=cD t t':=by rw[jd,kI I hl T T',gU]
  have c:eR aa l9 tp=cD t' t:=by rw[jd,kI I hl T' T,gU]
  rw[a,c]
 rw[<-e];by_cases h:tp=l9
 ·have:fE aa tp l9=true:=by rw[h];unfold fE;rw[jw];rfl
  rw[this];simp
 ·cases q:fE aa tp l9<;>simp[h]
theorem Vz(I:cu aa ay)(hl:aa.length<=500000)(L:jv aa t p num o tp ae)(L':jv aa t' p' mv o' l9 qh)(ok:t.Ok)(VA:t'.Ok)(h5:5<=p)(T:ah pm aa ay)(N:∀aE,gZ 0 h b aE (.d .none) [] pm):
  ∃aA rf aE tw,rn 59 51 [.ax b,.d (.int num),.d (vd p (nk t.key) tp t.opt t.ro),.d (vd p' (nk t'.key) l9 t'.opt t'.ro)] pm []=some (.d (.bool (rB t t')),aA,[])/\
   gZ 2 h b aE tw (if rB t t' then F7 t t' else[]) aA/\ah aA rf ay/\aa<+:rf/\rf.length<=aa.length+10:=by
 obtain⟨tm,⟨hV,T1⟩,RS,pS,lS⟩:=F1 (w:=o') I () L.tm L.own ();have IS:=I.ext RS pS;have T2:=L'.tm.pre pS;generalize hx:(jo aa o' tp).2=x at*
 generalize hr:(jo aa o' tp).1=rs at*
 have kk:=Vx ok.key VA.key;have Jo:=gN (P:=λ_=>True) IS () (λ_ _ _=>trivial) T1;have LK:=gN (P:=λ_=>True) IS () (λ_ _ _=>trivial) T2;have aT:gs rs x l9=cD t t':=by rw[oQ _ _ (PB Jo),jd,kI IS () T1 T2,gU]
 have aK:gs rs (kp t.key t'.key).1 (kp t.key t'.key).2=Sj t.key t'.key:=oT _ _ kk.2.2.2.1 kk.2.2.2.2;obtain⟨me,Sh⟩:=Vy RS (.tup [.int 15,.int (bN t'.key),.int o']);have hmu:=oP (aa:=rs) (x:=x);have VB:=oP (aa:=rs) (x:=l9);have tyA:=jV (rA ok.key ok.key).2.1;have tyB:=jV (rA VA.key VA.key).2.1;have eD:∀(q:gs rs x l9=true),(λs u:Int=>gs rs x l9=true->TV rs (λz=>z=me) s/\TV rs (λz=>z=me) u)=(λs u=>TV rs (λz=>z=me) s/\TV rs (λz=>z=me) u):=λq=>by funext s u;exact propext ⟨λh=>h q,λh _=>h⟩
 have Q3:gs rs x l9=true->∀s u,(gs rs x l9=true->TV rs (λz=>z=me) s/\TV rs (λz=>z=me) u)->u7 rs (λs u=>gs rs x l9=true->TV rs (λz=>z=me) s/\TV rs (λz=>z=me) u) (fE rs) (tf rs) s u:=λq s u hq=>by rw[eD q];exact Ao s u (hq q)
 have q3:gs rs x l9=true->TV rs (λz=>z=me) x/\TV rs (λz=>z=me) l9:=λq=>by rw[aT]at q;refine⟨gN IS () (λz hz m=>?_) T1,gN IS () (λz hz _=>Sh z hz) T2⟩;refine Sh z ?_;have:=jU.mp (gU.mpr q _ (jU (o:=o').mpr ⟨m,rfl⟩));rw[<-this.2];exact hz
 obtain⟨fR,tw,rf,e1,N1,TA,F9⟩:=f62 (h:=h) (b:=b) (aE:=gs rs) (iS:=fE rs) (k:=0) (A:=rz (nk t.key)) (B:=rz (nk t'.key)) (k1:=nk t.key) (k2:=nk t'.key) (o1:=t.opt) (r1:=t.ro) (o2:=t'.opt) (r2:=t'.ro) (p1:=p) (p2:=p') (t1:=tp) (t2:=l9) (o:=o') 58 (dq:=λs u=>EN (kp t.key t'.key).2 s u=true)
  (Ai:=λs u=>TV rs (λ_=>True) s/\TV rs (λ_=>True) u) (Je:=λs u=>gs rs x l9=true->TV rs (λz=>z=me) s/\TV rs (λz=>z=me) u) (mu:=DH (kp t.key t'.key).2) (Aj:=tf rs) (Jf:=tf rs) (Prod.ext hr hx:_=(rs,x)) rfl rfl (N _) T ()
  (tyA.pre I.pre) (tyB.pre I.pre) L'.own tm () (vh I oT kk.1) kk.2.1 kk.2.2.1 (yY oQ) ⟨Jo,LK⟩ ()
  Q3 (λ_=>q3) () (Ar Jo) (Ar LK) (tyA.pre IS.pre) (tyB.pre IS.pre) ()
 rw[aT,vi IS () T1 T2,F6 ok.key,F6 VA.key,decide_eq_decide.mpr (rA ok.key VA.key).2.2.2.2.2.2.2]at N1;rw[aT]at e1;rw[show gs rs (kq (rz (nk t.key)) (rz (nk t'.key)) (nk t'.key) (nk t.key)).1 (kq (rz (nk t.key)) (rz (nk t'.key)) (nk t'.key) (nk t.key)).2=Sj t.key t'.key from aK]at N1 e1;have hp:aa<+:rf:=by
  rcases F9 with e|e
  ·rw[e];exact lK _
  ·rw[e];exact pS
 have F_:rf.length<=aa.length+5:=by rcases F9 with e|e<;>rw[e]<;>omega
 have ne:l9≠(bM rf (.tup [.int 15,.int num,.int o'])).2:=λe=>by have q:=jR TA.rs (fm num o');rw[<-e]at q;have P:=cM TA.rs (fm num o');have:=(F8 ((L'.tm.pre hp).pre P.pre) q).2.1;have VC:=L.pZ;rw[this]at VC;unfold bN at VC;split at VC<;>omega
 obtain⟨dt,rf2,e2,N2,T3,Ym,U0⟩:=f51m 54 (s:=num) e1 N1 TA (L'.own.pre hp) ne ();exact⟨dt,rf2,_,tw,e2,N2,T3,hp.trans Ym,()⟩
end
def As(j:Nat):az:=⟨j,0,0,0,true⟩
def eg(j:Nat)(t:az):Bool:=cD (As j) t&&cD t (As j)
def jx(j:Nat)(t:az):Bool:=!decide (t.opt=2)&&(eg j t||(decide (t.opt=0)&&(d7 (nk t.key) (nk j)&&cD (As j) t)))
def tU(j:Nat)(t:az):List D:=if eg j t then FQ (bN j) (rz (nk t.key)) t.opt t.ro else FR (decide (t.key=j)) t.ro true
def nF(t:az)(j:Nat):Bool:=!decide (t.opt=1)&&(d7 (nk j) (nk t.key)&&cD t (As j))
def xc(t:az):List D:=kz 15::(if t.ro=1 then[kz 4]else[])
theorem VD:([0,1].all λj=>decide (bN j∈pH/\nk j∈pI/\nk j∈pH))=true:=by decide+kernel
theorem j_ty{j:Nat}(h:j<2):rz (bN j)= .par j/\rz (nk j)= .ko (bN j):=by have:j=0\/j=1:=();rcases this with e|e<;>subst e<;>exact⟨rfl,rfl⟩
section
variable{aa ay:List D}{h b:Nat}{pm:List MO}{t:az}{p j:Nat}{num o tp w:Int}{ae:List Int}
theorem xd(I:cu aa ay)(hj:j<2):aD aa (bN j) (.par j)/\aD aa (nk j) (.ko (bN j)):=by
 have a:=bf.mp VD j (by have:j=0\/j=1:=();simpa using this)
 have a:=of_decide_eq_true a;have e:=j_ty hj;rw[<-e.1,<-e.2];exact⟨(jV a.1).pre I.pre,(jV a.2.2).pre I.pre⟩
theorem tV(hj:j<2):af (As j) o=[.tup [.int 15,.int (bN j),.int o]]:=by unfold af As bN;simp[bh,bit]
theorem rC(hj:j<2)(q:jG aa (.tup [.int 15,.int (bN j),.int o]) w):ju aa (af (As j) o) w [w]:=by rw[tV hj];exact⟨λx hx=>⟨_,.head _,by rw[jI.mp hx];exact q⟩,λr hr=>⟨w,.head _,by rw[jI.mp hr];exact q⟩,by simp,by simp,by simp,.inl rfl⟩
theorem Ga(I:cu aa ay)(hl:aa.length<=800000)(hj:j<2)(q:jG aa (.tup [.int 15,.int (bN j),.int o]) w)(T:ju aa (af t o) tp ae):(tp=w)<->eg j t=true:=by
 have T1:=rC hj q;have e:=vi I hl T1 T;constructor
 ·intro h;unfold eg;rw[<-e,dK];exact .inl h.symm
 ·intro h;have h2:cD t (As j)=true:=by unfold eg at h;rw[bx]at h;exact h.2
  have al:∀z∈ae,z=w:=λz hz=>by obtain⟨r,hr,pz⟩:=T.m1 z hz;have:=gU.mpr h2 r hr;rw[tV hj,jI]at this;rw[this]at pz;exact pz.inj I.rs q
  rcases T.num with e'|⟨_,l2⟩
  ·exact al tp (by rw[e'];exact .head _)
  ·exact absurd al (F2 T.nd l2 w)
theorem VE(I:cu aa ay)(hl:aa.length<=500000)(hj:j<2)(L:jv aa t p num o tp ae)(ok:t.Ok)(T:ah pm aa ay)(N:∀aE,gZ 0 h b aE (.d .none) [] pm):
  ∃aA rf aE tw,rn 59 51 [.ax b,.d (.int (bN j)),.d (.tup [.int 10,.int j]),.d (vd p (nk t.key) tp t.opt t.ro)] pm []=some (.d (.bool (jx j t)),aA,[])/\
   gZ 2 h b aE tw (if jx j t then tU j t else[]) aA/\ah aA rf ay/\aa<+:rf/\rf.length<=aa.length+10:=by
 by_cases c2:t.opt=2
 ·have v:jx j t=false:=by unfold jx;rw[ed c2];rfl
  rw[v,jj];exact⟨pm,aa,d7,.d .none,f51a (o:=0) 54 (N d7) (),(N d7).up (),T,lK _,()⟩
 have jh:=xd I hj;have N0:=N d7;obtain⟨t0,kn,R,_,_⟩:=N0.ex;have hb:9<=b:=by have:=N0.hb;have:=N0.h9;omega
 obtain⟨fR,e1,T1,K1⟩:=f48 (n:=55) (s:=bN j) (o:=o) (p:=p) (row:=cq p (nk t.key) tp t.opt t.ro) T R.iI hb N0.h9 N0.ih rfl L.own ();have P:=cM I.rs (fm (bN j) o);have q:=jR I.rs (fm (bN j) o);generalize hw:(bM aa (.tup [.int 15,.int (bN j),.int o])).2=w at*
 generalize hr:(bM aa (.tup [.int 15,.int (bN j),.int o])).1=rs at*
 have pS:=P.pre;have lS:=P.len;have IS:=I.ext P.rs pS;have rE:bM rs (.tup [.int 15,.int (bN j),.int o])=(rs,w):=by rw[rx P.rs q.2,wg q.1]
 have Tt:=L.tm.pre pS;have Tj:=rC hj q;have c3:=Ga IS () hj q Tt;have N1:=λaE=>(N aE).keep K1;have yK:=jV (rA ok.key ok.key).2.1;have c2':(t.opt:Int)≠2:=();by_cases e3:tp=w
 ·have on:=c3.mp e3;have v:jx j t=true:=by unfold jx;rw[dU c2,on];rfl
  rw[v,lV];have jS:=xd IS hj;obtain⟨iZ,e54,N3,T3⟩:=f54 (K:=rz (nk t.key)) (kk:=nk t.key) (p2:=p) (t2:=tp) (o2:=t.opt) (r2:=t.ro) 58 (N1 d7) T1 (by simp) () jS.1 jS.2 (yK.pre IS.pre) ();refine⟨iZ,rs,d7,.d .none,f51c 54 c2' N0 e1 e3 e54,?_,T3,pS,()⟩;unfold tU;rw[on,lV];exact N3.up ()
 ·have on:eg j t=false:=by
   cases q:eg j t with
   |false=>rfl
   |true=>exact absurd (c3.mpr q) e3
  by_cases c0:t.opt=0
  ·have jS:=xd IS hj;have EO:=rA (a:=j) (b:=t.key) () ok.key;have Jo:=gN (P:=λ_=>True) IS () (λ_ _ _=>trivial) Tj;have LK:=gN (P:=λ_=>True) IS () (λ_ _ _=>trivial) Tt;have aT:gs rs w tp=cD (As j) t:=by rw[oQ _ _ (PB Jo),jd,kI IS () Tj Tt,gU]
   have aK:gs rs (nk t.key) (nk j)=d7 (nk t.key) (nk j):=oT _ _ EO.2.2.2.2.2.1 EO.2.2.2.2.2.2.1;have hmu:=oP (aa:=rs) (x:=w);have VB:=oP (aa:=rs) (x:=tp);have eD:∀(q:gs rs w tp=true),(λs u:Int=>gs rs w tp=true->TV rs (λz=>z=w) s/\TV rs (λz=>z=w) u)=(λs u=>TV rs (λz=>z=w) s/\TV rs (λz=>z=w) u):=λq=>by funext s u;exact propext ⟨λh=>h q,λh _=>h⟩
   have Q3:gs rs w tp=true->∀s u,(gs rs w tp=true->TV rs (λz=>z=w) s/\TV rs (λz=>z=w) u)->u7 rs (λs u=>gs rs w tp=true->TV rs (λz=>z=w) s/\TV rs (λz=>z=w) u) (fE rs) (tf rs) s u:=λq s u hq=>by rw[eD q];exact Ao s u (hq q)
   have q3:gs rs w tp=true->TV rs (λz=>z=w) w/\TV rs (λz=>z=w) tp:=λh=>by rw[aT]at h;refine⟨gN IS () (λz hz m=>hz.inj P.rs q) Tj,gN IS () (λz hz m=>?_) Tt⟩;have:=jU.mp (gU.mpr h _ (jU (o:=o).mpr ⟨rfl,rfl⟩));have e:bN j=bN t.key:=this.2;rw[<-e]at hz;exact hz.inj P.rs q
   obtain⟨iZ,tw,rf,Yl,N3,T3,F9⟩:=f56 (h:=h) (b:=b) (aE:=gs rs) (iS:=fE rs) (k:=0) (s:=bN j) (ks:=nk j) (kk:=nk t.key) (K:=rz (nk t.key)) (p2:=p) (t2:=tp) (o2:=0) (r2:=t.ro) (o:=o) 58 (dq:=λs u=>EN (nk j) s u=true)
    (Ai:=λs u=>TV rs (λ_=>True) s/\TV rs (λ_=>True) u) (Je:=λs u=>gs rs w tp=true->TV rs (λz=>z=w) s/\TV rs (λz=>z=w) u) (mu:=DH (nk j)) (Aj:=tf rs) (Jf:=tf rs) rE (N1 _) T1 () ()
    jS.1 jS.2 EO.2.2.1 (yK.pre IS.pre) (L.own.pre pS) (vh IS oT EO.1) EO.2.2.2.1 EO.2.2.2.2.1 (yY oQ) ⟨Jo,LK⟩ (show tf rs w+tf rs tp<=3 by omega)
    Q3 (λ_=>q3) (show tf rs w+tf rs tp<=2 by omega) (Ar Jo) (Ar LK) ()
   have F9:rf=rs:=by rcases F9 with e|e<;>exact e
   rw[aT,aK]at Yl N3;rw[vi IS () Tj Tt,show(cD (As j) t&&cD t (As j))=false from on]at N3;have v:jx j t=(d7 (nk t.key) (nk j)&&cD (As j) t):=by unfold jx;rw[dU c2,on,ed c0];rfl
   rw[v];refine⟨iZ,rf,gs rs,tw,?_,?_,T3,by rw[F9];exact pS,by rw[F9];omega⟩
   ·rw[show(t.opt:Int)=0 by omega];exact f51d 54 (N d7) (by rw[show(t.opt:Int)=0 by omega]at e1;exact e1) e3 Yl
   ·unfold tU;rw[on,jj];rw[decide_eq_decide.mpr (rA ok.key (show j<7 by omega)).2.2.2.2.2.2.2]at N3;exact N3
  ·have v:jx j t=false:=by unfold jx;rw[on,dU c0];simp
   rw[v,jj];have c1:t.opt=1:=by have:=ok.opt;omega
   refine⟨fR,rs,d7,.d .none,?_,(N1 d7).up (),T1,pS,()⟩;rw[show(t.opt:Int)=1 by omega]at e1⊢;exact f51e 54 (N d7) e1 e3
theorem VF(I:cu aa ay)(hl:aa.length<=500000)(hj:j<2)(L:jv aa t p num o tp ae)(ok:t.Ok)(T:ah pm aa ay)(N:∀aE,gZ 0 h b aE (.d .none) [] pm):
  ∃aA rf aE tw,rn 59 49 [.ax b,.d (.int (bN j)),.d (vd p (nk t.key) tp t.opt t.ro)] pm []=some (.d (.bool (nF t j)),aA,[])/\
   gZ 2 h b aE tw (if nF t j then xc t else[]) aA/\ah aA rf ay/\aa<+:rf/\rf.length<=aa.length+10:=by
 by_cases c1:t.opt=1
 ·have v:nF t j=false:=by unfold nF;rw[ed c1];rfl
  rw[v,jj];exact⟨pm,aa,d7,.d .none,f49a 54 (),(N d7).up (),T,lK _,()⟩
 have jh:=xd I hj;have P:=cM I.rs (fm (bN j) o);have q:=jR I.rs (fm (bN j) o);generalize hw:(bM aa (.tup [.int 15,.int (bN j),.int o])).2=w at*
 generalize hr:(bM aa (.tup [.int 15,.int (bN j),.int o])).1=rs at*
 have pS:=P.pre;have lS:=P.len;have IS:=I.ext P.rs pS;have Tt:=L.tm.pre pS;have Tj:=rC hj q;have EO:=rA (a:=t.key) (b:=j) ok.key ();have Jo:=gN (P:=λ_=>True) IS () (λ_ _ _=>trivial) Tj;have LK:=gN (P:=λ_=>True) IS () (λ_ _ _=>trivial) Tt;have aT:gs rs tp w=cD t (As j):=by rw[oQ _ _ (PB LK),jd,kI IS () Tt Tj,gU]
 have aK:gs rs (nk j) (nk t.key)=d7 (nk j) (nk t.key):=oT _ _ EO.2.2.2.2.2.1 EO.2.2.2.2.2.2.1;have hmu:=oP (aa:=rs) (x:=w);have VB:=oP (aa:=rs) (x:=tp);obtain⟨iZ,rf,e,N3,T3,F9⟩:=f49 (h:=h) (b:=b) (aE:=gs rs) (k:=0) (t:=bN j) (kt:=nk j) (k1:=nk t.key) (p1:=p) (t1:=tp) (o1:=t.opt) (r1:=t.ro) (o:=o) 59 (dq:=λs u=>EN (nk t.key) s u=true)
  (Ai:=λs u=>TV rs (λ_=>True) s/\TV rs (λ_=>True) u) (mu:=DH (nk t.key)) (Aj:=tf rs) () (N _) T () ()
  jh.2 L.own (vh I oT EO.1) EO.2.2.2.1 EO.2.2.2.2.1 (by rw[hr];exact yY oQ) (by rw[hw];exact⟨LK,Jo⟩) (by rw[hw];omega) ()
 rw[hw,aT,aK]at e N3;rw[hr]at F9;have v:nF t j=(d7 (nk j) (nk t.key)&&cD t (As j)):=by unfold nF;rw[dU c1];rfl
 rw[v];refine⟨iZ,rf,gs rs,.d .none,e,?_,T3,?_,?_⟩
 ·unfold xc;have e1:((t.ro:Int)=1)<->t.ro=1:=();simpa[e1]using N3
 ·rcases F9 with e|e
  ·rw[e];exact lK _
  ·rw[e];exact pS
 ·rcases F9 with e|e<;>rw[e]<;>omega
end
abbrev aU:=Nat×Bool×Bool
abbrev ik:=List (Nat×aU)
def g_(n:Nat):D:= .str [n]
def oV(e:aU):D:= .tup [.int e.1,.bool e.2.1,.bool e.2.2]
def ku(t:ik):List (D×D):=t.map λp=>(g_ p.1,oV p.2)
def f_(t:ik):D:= .gT (ku t)
def DI(l:List Nat):D:= .lst (l.map g_)
def Gb:List ik:=[[],[(112,32,false,false)],[(112,32,true,false),(113,1,false,true)],[(112,33,false,true),(113,32,true,true)]]
def LL:List (List Nat)->List Nat->List (List Nat)
 |f,[]=>f
 |f,n::r=>LL (f++f.map λh=>h++[n]) r
def Gd(l:List Nat):List (List Nat):=(LL [[]] l).drop 1
def PC(t:ik)(way:Nat):ik:=(t.filterMap λp=>if way=4/\p.2.2.1=true then none else if way=3/\p.2.2.1=true then some (p.1,p.2.1|||8,false,p.2.2.2)else some (p.1,p.2.1,p.2.2.1,p.2.2.2&&!decide (way=2)))++if way=1 then[(122,32,false,false)]else[]
section
variable{pm:List MO}
end
abbrev a9:=ik×ik×List Nat×List Nat×List Nat
def bA(w:a9):D:= .tup [f_ w.1,f_ w.2.1,DI w.2.2.1,DI w.2.2.2.1,DI w.2.2.2.2]
def c9(t:ik):List Nat:=t.map (·.1)
def PD(f:Bool)(t:ik):List (List Nat):=if f then Gd (c9 t)else[[]]
def smF(f:Bool)(pick:List Nat):List (List Nat):=if f then Gd pick else[pick]
def fewF(f:Bool):List (List Nat):=if f then Gd [112,113]else[[]]
def VG(f:Bool):Nat:=if f then 5 else 1
def w7(t:ik)(pick sm few:List Nat)(way:Nat):a9:=(t,PC t way,pick,sm,few)
def w6(f1:Bool)(t:ik)(pick sm few:List Nat):List a9:=(List.range (VG f1)).map (w7 t pick sm few)
def w5(f1 f4:Bool)(t:ik)(pick sm:List Nat):List a9:=(fewF f4).flatMap (w6 f1 t pick sm)
def w4(f1 f3 f4:Bool)(t:ik)(pick:List Nat):List a9:=(smF f3 pick).flatMap (w5 f1 f4 t pick)
def w2(f1 f2 f3 f4:Bool)(t:ik):List a9:=(PD (f2||f3) t).flatMap (w4 f1 f3 f4 t)
def qF(f1 f2 f3 f4:Bool):List a9:=Gb.flatMap (w2 f1 f2 f3 f4)
theorem VH{sp:Spec}{pm aA:List MO}{tm:List TO}{l:List D}{v:D}(h:sp [.aI 0] pm [.list l]=some (.d v,aA,[.list l])):cJ sp [.aI tm.length] ⟨pm,tm++[.list l]⟩=some (.d v,⟨aA,tm++[.list l]⟩):=by exact dn rfl nq rfl h qE
theorem xe{ls:Ls}{X:Cx}{s:S}{σ:PS}{r:Ls×PS}(h:exec X s ls σ=some (.next,r.1,r.2)):execs X #[s] ls σ=some (.next,r.1,r.2):=(av h).trans aP
abbrev cW (a b:Int):TO:= .list [.int a,.int b]
theorem PF{P:Nat->Prop}{n:Nat}(h0:P 0)(hs:∀k,k<n->P (k+1)):∀k,k<n+1->P k
 |0,_=>h0
 |k+1,h=>hs k (Nat.lt_of_succ_lt_succ h)
theorem H5{P:Nat->Prop}(h0:P 0)(h1:P 1)(h2:P 2)(h3:P 3)(h4:P 4)(h5:P 5)(h6:P 6):∀k,k<7->P k:=
 PF h0 (PF h1 (PF h2 (PF h3 (PF h4 (PF h5 (PF h6 λ_ h=>absurd h (Nat.not_lt_zero _)))))))
def xf(a b c:Nat):Bool:=a==c||b==c
abbrev PG (n:Nat) (pm:List MO) (a b:Nat):Prop:=rn (n+2) 81 [.aI 0] pm [cW (a:Nat) (b:Nat)]=some (.d (.lst ((qF (xf a b 1) (xf a b 2) (xf a b 3) (xf a b 4)).map bA)),pm,[cW (a:Nat) (b:Nat)])
theorem f81a(n:Nat)(pm:List MO):∀b,b<7->PG n pm 0 b:=by refine H5 ?_ ?_ ?_ ?_ ?_ ?_ ?_<;>kernel_rfl
theorem f81b(n:Nat)(pm:List MO):∀b,b<7->PG n pm 1 b:=by refine H5 ?_ ?_ ?_ ?_ ?_ ?_ ?_<;>kernel_rfl
theorem f81c(n:Nat)(pm:List MO):∀b,b<7->PG n pm 2 b:=by refine H5 ?_ ?_ ?_ ?_ ?_ ?_ ?_<;>kernel_rfl
theorem f81d(n:Nat)(pm:List MO):∀b,b<7->PG n pm 3 b:=by refine H5 ?_ ?_ ?_ ?_ ?_ ?_ ?_<;>kernel_rfl
theorem f81e(n:Nat)(pm:List MO):∀b,b<7->PG n pm 4 b:=by refine H5 ?_ ?_ ?_ ?_ ?_ ?_ ?_<;>kernel_rfl
theorem f81f(n:Nat)(pm:List MO):∀b,b<7->PG n pm 5 b:=by refine H5 ?_ ?_ ?_ ?_ ?_ ?_ ?_<;>kernel_rfl
theorem f81g(n:Nat)(pm:List MO):∀b,b<7->PG n pm 6 b:=by refine H5 ?_ ?_ ?_ ?_ ?_ ?_ ?_<;>kernel_rfl
theorem f81(n:Nat){pm:List MO}:∀a,a<7->∀b,b<7->rn (n+2) 81 [.aI 0] pm [cW (a:Nat) (b:Nat)]=some (.d (.lst ((qF (xf a b 1) (xf a b 2) (xf a b 3) (xf a b 4)).map bA)),pm,[cW (a:Nat) (b:Nat)]):=
 H5 (f81a n pm) (f81b n pm) (f81c n pm) (f81d n pm) (f81e n pm) (f81f n pm) (f81g n pm)
def a_(n:Nat):ik->Option aU
 |[]=>none
 |p::r=>if Nat.beq n p.1 then some p.2 else a_ n r
def DJ(gt1 o0 o1 o2 r0 r1:Bool)(m:Nat)(mem:Bool)(e:aU):aU:=
 let got:=if mem then(if e.2.1 then(m|||e.1)|||8 else m|||e.1)else m
 if gt1 then(got,o1,r1)else(if o2&&e.2.1 then got&&&55 else got,if o0 then e.2.1 else o1,if r0 then e.2.2 else r1)
theorem PH(a b:Nat):bc (g_ a) (g_ b)=Nat.beq a b:=by exact(wk (a==b)).trans (jd.mpr (fg.trans ⟨λe=>by rw[e];exact Nat.beq_refl _,kh⟩))
theorem Au(n:Nat):∀t:ik,kA (g_ n) (ku t)=(a_ n t).map oV
 |[]=>rfl
 |p::r=>by show(if bc (g_ n) (g_ p.1)then some (oV p.2)else kA (g_ n) (ku r))=((if Nat.beq n p.1 then some p.2 else a_ n r):Option aU).map oV;rw[PH,Au n r];split<;>rfl
theorem Av(n:Nat):∀t:ik,fM (g_ n) (ku t)=(a_ n t).isSome
 |[]=>rfl
 |p::r=>by show(bc (g_ n) (g_ p.1)||fM (g_ n) (ku r))=((if Nat.beq n p.1 then some p.2 else a_ n r):Option aU).isSome;rw[PH,Av n r];cases Nat.beq n p.1<;>simp
theorem Aw(n:Nat)(e:aU):∀t:ik,a_ n t=none->dput (g_ n) (oV e) (ku t)=ku (t++[(n,e)])
 |[],_=>rfl
 |p::r,h=>by
  have h:((if Nat.beq n p.1 then some p.2 else a_ n r):Option aU)=none:=h;show(if bc (g_ n) (g_ p.1)then(g_ p.1,oV e)::ku r else(g_ p.1,oV p.2)::dput (g_ n) (oV e) (ku r))=_;rw[PH];cases q:Nat.beq n p.1 with
  |true=>rw[q,if_pos rfl]at h;cases h
  |false=>
   rw[q,if_neg ∅]at h;rw[if_neg ∅,Aw n e r h];rfl
theorem yZ(n:Nat)(t:ik):jm (g_ n) (ku t)=true:=by cases t<;>rfl
theorem xg(t:ik):jn (ku t)=true:=by cases t<;>rfl
theorem Ax(t:ik):(ku t).map (·.1)=(c9 t).map g_:=by simp[ku,c9,Function.comp_def]
theorem PI(t:ik):(ku t).length=t.length:=by simp[ku]
def b82:Ss:=#[.ki [10,11,12] (.ite (.cmp .lt 'c' 4.0) (.sub 'h' 'j') (.tup #[0.0,.lit (.bool false),.lit (.bool false)])),.asg 13 'f',.ite 'g' #[.asg 13 (.ite 'l' (.bin .bor (.bin .bor 'f' 'k') 8.0) (.bin .bor 'f' 'k'))] .nil,.ite (.cmp .gt 'c' 1.0) #[.ie 'i' 'j' (.tup #['n',.cmp .eq 'd' 1.0,.cmp .eq 'e' 1.0]),.cont] .nil,.ite (.and #[.cmp .eq 'd' 2.0,'l']) #[.asg 13 (.bin .band 'n' 55.0)] .nil,.ie 'i' 'j' (.tup #['n',.ite (.cmp .eq 'd' 0.0) 'l' (.cmp .eq 'd' 1.0),.ite (.cmp .eq 'e' 0.0) 'm' (.cmp .eq 'e' 1.0)])]
abbrev Ge (S W B:D) (k o r:Int) (m:Nat) (mem:Bool) (x9 nj wb PJ PK:Option PV):Ls:=[some (.d S),some (.d W),some (.d (.int k)),some (.d (.int o)),some (.d (.int r)),some (.d (.int m)),some (.d (.bool mem)),some (.d B),some (.aI 0),x9,nj,wb,PJ,PK]
inductive Sk (S W B:D) (k o r:Int) (m:Nat) (mem:Bool) (x9:Option PV):Ls->Prop
 |mk (nj wb PJ PK:Option PV):Sk S W B k o r m mem x9 (Ge S W B k o r m mem x9 nj wb PJ PK)
section
variable{X:Cx}{pm:List MO}{n:Nat}{j:List TO}{ls:Ls}{σ:PS}
theorem PL{c a:E}{b:Bool}{k:Nat}(ht:test X c ls σ=some (b,σ))(ha:eval X a ls σ=some (.d (.int k),σ)):eval X (.ite c (.bin .bor a 8.0) a) ls σ=some (.d (.int (if b then k|||8 else k:Nat)),σ):=by
 cases b with
 |true=>exact iY ht (dC ha aG rfl)
 |false=>exact ig ht ha
theorem Ay{t:ik}{nm:Nat}{e:aU}(h:a_ nm t=some e):σ.wA (.d (f_ t)) (.d (g_ nm))=some (.d (oV e)):=by show dy (ai s8 (kA (g_ nm) (ku t))) (jm (g_ nm) (ku t))=_;rw[yZ,Au,h];rfl
theorem VI{ex:E}{e:aU}{nm:Nat}{done:ik}(h8:ls[8]?= ~~~(.aI 0))(h9:ls[9]?= ~~~(.d (g_ nm)))(hd:a_ nm done=none)(hl:done.length<=100000)(he:eval X ex ls ⟨pm,.dict (ku done)::j⟩=some (.d (oV e),⟨pm,.dict (ku done)::j⟩)):
  exec X (.ie 'i' 'j' ex) ls ⟨pm,.dict (ku done)::j⟩=some (.next,ls,⟨pm,.dict (ku (done++[(nm,e)]))::j⟩):=by
 have ft:fits (ku done)=true:=cT (by rw[PI];omega);have c:PS.Dk ⟨pm,.dict (ku done)::j⟩ (.aI 0) (g_ nm) (oV e)=some ⟨pm,.dict (ku (done++[(nm,e)]))::j⟩:=by show dy (some (PS.mk pm (.dict (dput (g_ nm) (oV e) (ku done))::j))) (jm (g_ nm) (ku done)&&fits (ku done))=_;rw[yZ,ft,Aw nm e done hd];rfl
 exact(aq he).trans ((aq (ak h8)).trans ((aq (ak h9)).trans (aq c)))
theorem Gf{c a b:E}{t x y:Bool}(h:test X c ls σ=some (t,σ))(h1:eval X a ls σ=some (.d (.bool x),σ))(h2:eval X b ls σ=some (.d (.bool y),σ)):eval X (.ite c a b) ls σ=some (.d (.bool (if t then x else y)),σ):=by
 cases t with
 |true=>exact iY h h1
 |false=>exact ig h h2
def rF(m:Nat)(mem:Bool)(e:aU):Nat:=if mem then(if e.2.1 then(m|||e.1)|||8 else m|||e.1)else m
variable{S W B:D}{k o r:Int}{m nm:Nat}{mem:Bool}{e:aU}{bt:ik}{nj wb PJ PK:Option PV}
theorem xh{i j k:Nat}{ex:E}{a b c:D}{aj:PS}(h:eval X ex ls σ=some (.d (.tup [a,b,c]),aj)):exec X (.ki [i,j,k] ex) ls σ=some (.next,((ls.set i (some (.d a))).set j (some (.d b))).set k (some (.d c)),aj):=aq h
theorem Gg{rr:Ss}(h1:k<4->B=f_ bt/\a_ nm bt=some e)(h2:¬k<4->e=(0,false,false)):
  execs X (.cons (.ki [10,11,12] (.ite (.cmp .lt 'c' 4.0) (.sub 'h' 'j') (.tup #[0.0,.lit (.bool false),.lit (.bool false)]))) (.cons (.asg 13 'f') (.cons (.ite 'g' #[.asg 13 (.ite 'l' (.bin .bor (.bin .bor 'f' 'k') 8.0) (.bin .bor 'f' 'k'))] .nil) rr))) (Ge S W B k o r m mem (some (.d (g_ nm))) nj wb PJ PK) σ=
  execs X rr (Ge S W B k o r m mem (some (.d (g_ nm))) (some (.d (.int e.1))) (some (.d (.bool e.2.1))) (some (.d (.bool e.2.2))) (some (.d (.int (rF m mem e))))) σ:=by
 have e1:eval X (.ite (.cmp .lt 'c' 4.0) (.sub 'h' 'j') (.tup #[0.0,.lit (.bool false),.lit (.bool false)])) (Ge S W B k o r m mem (some (.d (g_ nm))) nj wb PJ PK) σ=some (.d (oV e),σ):=
  UT (tLt (ak rfl) aG) (λc=>(h1 (of_decide_eq_true c)).1▸cY (ak rfl) (ak rfl) (Ay (h1 (of_decide_eq_true c)).2)) λc=>h2 (of_decide_eq_false c)▸rfl
 have fZ:exec X (.ite 'g' #[.asg 13 (.ite 'l' (.bin .bor (.bin .bor 'f' 'k') 8.0) (.bin .bor 'f' 'k'))] .nil) (Ge S W B k o r m mem (some (.d (g_ nm))) (some (.d (.int e.1))) (some (.d (.bool e.2.1))) (some (.d (.bool e.2.2))) (some (.d (.int m)))) σ=some (.next,Ge S W B k o r m mem (some (.d (g_ nm))) (some (.d (.int e.1))) (some (.d (.bool e.2.1))) (some (.d (.bool e.2.2))) (some (.d (.int (rF m mem e)))),σ):=by
  cases mem with
  |true=>exact bI rfl ((av (bC (PL (lQ rfl) (dC (ak rfl) (ak rfl) rfl)))).trans aP)
  |false=>exact aS rfl aP
 refine(av (xh (a:= .int e.1) (b:= .bool e.2.1) (c:= .bool e.2.2) e1)).trans ?_;refine(av (bC (ak rfl))).trans ?_;exact av fZ
theorem PN{done:ik}(h1:k<4->B=f_ bt/\a_ nm bt=some e)(h2:¬k<4->e=(0,false,false))(hd:a_ nm done=none)(hl:done.length<=100000):
  ∃fl bo,execs (aH n) b82 (Ge S W B k o r m mem (some (.d (g_ nm))) nj wb PJ PK) ⟨pm,.dict (ku done)::j⟩=
    some (fl,bo,⟨pm,.dict (ku (done++[(nm,DJ (decide (1<k)) (o==0) (o==1) (o==2) (r==0) (r==1) m mem e)]))::j⟩)/\(fl= .next\/fl= .cont)/\Sk S W B k o r m mem (some (.d (g_ nm))) bo:=by
 cases c1:decide (1<k)with
 |true=>exact⟨_,_,(Gg h1 h2).trans (qB (bI ((tGt (ak rfl) aG).trans (by rw[c1])) ((av (VI (e:=(rF m mem e,o==1,r==1)) rfl rfl hd hl (q9 (au (ak rfl) (au (UR (ak rfl) aG) (au (UR (ak rfl) aG) bp))) rfl rfl))).trans (qB (s:= .cont) (r:= .nil) rfl)))),.inr rfl,.mk ..⟩
 |false=>
  refine⟨.next,Ge S W B k o r m mem (some (.d (g_ nm))) (some (.d (.int e.1))) (some (.d (.bool e.2.1))) (some (.d (.bool e.2.2))) (some (.d (.int (if (o==2)&&e.2.1 then rF m mem e&&&55 else rF m mem e:Nat)))),(Gg h1 h2).trans ?_,.inl rfl,.mk ..⟩;refine(av (aS ((tGt (ak rfl) aG).trans (by rw[c1])) aP)).trans ?_;refine(av (aj:=⟨pm,.dict (ku done)::j⟩) (bz:=Ge S W B k o r m mem (some (.d (g_ nm))) (some (.d (.int e.1))) (some (.d (.bool e.2.1))) (some (.d (.bool e.2.2))) (some (.d (.int (if (o==2)&&e.2.1 then rF m mem e&&&55 else rF m mem e:Nat))))) (US (mZ (wG (ak rfl) aG) (lQ rfl)) (λc=>?_) λc=>?_)).trans ?_
  ·rw[if_pos c];exact(av (bC (dC (ak rfl) aG rfl))).trans aP
  ·rw[if_neg (by rw[c];decide)];exact aP
  refine(av (VI (e:=DJ false (o==0) (o==1) (o==2) (r==0) (r==1) m mem e) rfl rfl hd hl ?_)).trans aP;exact q9 (au (ak rfl) (au (Gf (wG (ak rfl) aG) (ak rfl) (UR (ak rfl) aG)) (au (Gf (wG (ak rfl) aG) (ak rfl) (UR (ak rfl) aG)) bp))) rfl rfl
end
theorem oW{n:Nat}:∀{t:ik},n∉c9 t->a_ n t=none
 |[],_=>rfl
 |p::r,h=>by have h1:n≠p.1:=λe=>h (by rw[e];exact .head _);show((if Nat.beq n p.1 then some p.2 else a_ n r):Option aU)=none;rw[wH,dU h1,if_neg ∅,oW λz=>h (.tail _ z)]
def gv(k:Nat)(w:a9):ik:=if k=1 then w.2.1 else w.1
def fF(k:Nat)(w:a9):List Nat:=match k with
 |0=>c9 (gv k w)
 |1=>c9 (gv k w)
 |2=>w.2.2.1
 |3=>w.2.2.2.1
 |4=>w.2.2.2.2
 |5=>[112,113]
 |_=>[112]
def xW(k:Nat)(w:a9):D:=match k with
 |0=>f_ (gv k w)
 |1=>f_ (gv k w)
 |2=>DI w.2.2.1
 |3=>DI w.2.2.2.1
 |4=>DI w.2.2.2.2
 |5=>DI [112,113]
 |_=>DI [112]
def Gh(k:Nat)(w:a9)(nm:Nat):aU:=if k<4 then(a_ nm (gv k w)).getD (0,false,false)else(0,false,false)
def y1(t:az)(e:aU):aU:=DJ (decide (1<t.key)) (t.opt==0) (t.opt==1) (t.opt==2) (t.ro==0) (t.ro==1) t.mask t.mem e
def jy(t:az)(w:a9):ik:=(fF t.key w).map λnm=>(nm,y1 t (Gh t.key w nm))
def Yo(k:Nat)(w:a9):Bool:=decide (fF k w).Nodup&&((!decide (k<4)||(fF k w).all λnm=>(a_ nm (gv k w)).isSome)&&decide ((fF k w).length<=100))
theorem nG(a b:Nat):(((a:Nat):Int)==((b:Nat):Int))=(a==b):=by
 by_cases h:a=b
 ·subst h;simp
 ·have:(a:Int)≠(b:Int):=();rw[show(a==b)=false by simpa using h];simpa using this
section
variable{pm:List MO}{n:Nat}
theorem PQ{k o r:Int}{m:Nat}{mem:Bool}{S W B:D}{bt:ik}{ent:Nat->aU}{j:List TO}(l:List Nat):∀(done:ik) {x9:Option PV} {ls:Ls},Sk S W B k o r m mem x9 ls->
  (∀nm∈l,(k<4->B=f_ bt/\a_ nm bt=some (ent nm))/\(¬k<4->ent nm=(0,false,false)))->(c9 done++l).Nodup->done.length+l.length<=100000->
  ∃bo y9,dO (λl s=>execs (aH n) b82 l s) (kf 9) (l.map g_) ls ⟨pm,.dict (ku done)::j⟩=
   some (.next,bo,⟨pm,.dict (ku (done++l.map λnm=>(nm,DJ (decide (1<k)) (o==0) (o==1) (o==2) (r==0) (r==1) m mem (ent nm))))::j⟩)/\Sk S W B k o r m mem y9 bo:=by
 induction l with
 |nil=>
  intro done x9 ls c _ _ _;exact⟨ls,x9,congrArg (λz=>some (Fl.next,ls,PS.mk pm (TO.dict (ku z)::j))) (ej done).symm,c⟩
 |cons nm l ih=>
  rintro done _ _ ⟨⟩ h nd hl;simp only[fw]at hl;have hn:nm∉c9 done:=λz=>(List.nodup_append.mp nd).2.2 nm z nm (.head _) rfl;obtain⟨fl,ls1,e1,hf,c1⟩:=PN (n:=n) (pm:=pm) (j:=j) (h nm (.head _)).1 (h nm (.head _)).2 (oW hn) ();obtain⟨EK,y,e2,c2⟩:=ih (done++[(nm,DJ (decide (1<k)) (o==0) (o==1) (o==2) (r==0) (r==1) m mem (ent nm))]) c1 (λz hz=>h z (.tail _ hz)) (by simpa[c9]using nd) (by simp;omega);rw[eI]at e2;exact⟨EK,y,hf.elim (λz=>fJ rfl (z▸e1) e2) λz=>z6 rfl (z▸e1) e2,c2⟩
theorem PR{k:Nat}{S:D}{w:a9}{x3 x4 x5 x6:Option PV}{rest:Ls}{σ:PS}:exec (aH n) (.asg 7 (.sub 'b' (.ite (.cmp .eq 'c' 1.0) 1.0 0.0))) (some (.d S)::some (.d (bA w))::some (.d (.int k))::x3::x4::x5::x6::none::rest) σ=
  some (.next,some (.d S)::some (.d (bA w))::some (.d (.int k))::x3::x4::x5::x6::some (.d (f_ (gv k w)))::rest,σ):=by
 have t:=wG (X:=aH n) (σ:=σ) (ls:=some (.d S)::some (.d (bA w))::some (.d (.int k))::x3::x4::x5::x6::none::rest) (a:= .loc 2) (b:= .lit (.int 1)) (i:=k) (j:=1) (ak rfl) aG;have b1:((k:Int)==1)=(k==1):=nG k 1;rw[b1]at t;unfold gv;by_cases h:k=1
 ·subst h;rfl
 ·rw[if_neg h];rw[beq_false_of_ne h]at t;exact bC (cY (ak rfl) (ig t aG) rfl)
def Yp(w:a9)(k:Nat):List D:=[f_ (gv k w),f_ (gv k w),DI w.2.2.1,DI w.2.2.2.1,DI w.2.2.2.2,DI [112,113],DI [112]]
theorem getX{w:a9}{σ:PS}{i:Nat}(k:Nat)(hk:k<7)(h:σ.tm[i]?=some (.list (Yp w k))):σ.wA (.aI i) (.d (.int (k:Nat)))=some (.d (xW k w)):=by show ai (Dj (.int (k:Nat))) (ai toD σ.tm[i]?)=_;rw[h];exact H5 (P:=λk=>ai (Dj (.int (k:Nat))) (ai toD (some (.list (Yp w k))))=some (.d (xW k w))) rfl rfl rfl rfl rfl rfl rfl k hk
theorem VJ{w:a9}{σ:PS}(k:Nat)(hk:k<7):dZ σ (.d (xW k w))=some ((fF k w).map g_,σ,.none):=by
 have d:∀t:ik,dZ σ (.d (f_ t))=some ((c9 t).map g_,σ,.none):=λt=>by show dy (some ((ku t).map (·.1),σ,Lock.none)) (jn (ku t))=_;rw[xg,Ax];rfl
 exact H5 (P:=λk=>dZ σ (.d (xW k w))=some ((fF k w).map g_,σ,.none)) (d _) (d _) rfl rfl rfl rfl rfl k hk
theorem VK{k:Nat}{w:a9}(ok:¬k<4\/∀x∈fF k w,(a_ x (gv k w)).isSome=true):∀nm∈fF k w,((k:Int)<4->f_ (gv k w)=f_ (gv k w)/\a_ nm (gv k w)=some (Gh k w nm))/\(¬(k:Int)<4->Gh k w nm=(0,false,false)):=by
 intro nm hn;unfold Gh;refine⟨λh=>⟨rfl,?_⟩,λh=>if_neg ()⟩;have h:k<4:=();rw[if_pos h];have:=ok.resolve_left (λz=>z h) nm hn;cases z:a_ nm (gv k w)with
 |none=>rw[z]at this;cases this
 |some v=>rfl
theorem Sk.h8{S W B:D}{k o r:Int}{m:Nat}{mem:Bool}{x:Option PV}{ls:Ls}(c:Sk S W B k o r m mem x ls):ls[8]?= ~~~(.aI 0):=by cases c;rfl
theorem f82{t:az}{w:a9}(hk:t.key<7)(ok:Yo t.key w=true):rn (n+1) 82 [.d t.d,.d (bA w)] pm []=some (.d (f_ (jy t w)),pm,[]):=by
 unfold Yo at ok;simp only[bx,mO,pY,dK,EU,bf]at ok;obtain⟨ok1,ok2,ok3⟩:=ok;obtain⟨ls,y,e,c⟩:=PQ (n:=n) (pm:=pm) (k:=t.key) (o:=t.opt) (r:=t.ro) (m:=t.mask) (mem:=t.mem) (S:=t.d) (W:=bA w) (B:=f_ (gv t.key w)) (j:=[.dead,.dead,.list (Yp w t.key)]) (fF t.key w) [] (.mk none none none none) (VK ok2) ok1 (by simp;omega);have s5:eval (aH n) (.lst #['h','h',.sub 'b' 2.0,.sub 'b' 3.0,.sub 'b' 4.0,.lst #[.lit (.str [112]),.lit (.str [113])],.lst #[.lit (.str [112])]]) (Ge t.d (bA w) (f_ (gv t.key w)) t.key t.opt t.ro t.mask t.mem none none none none none) ⟨pm,[.dict []]⟩=
  some (.aI 3,⟨pm,[.dict [],.dead,.dead,.list (Yp w t.key)]⟩):=rfl
 refine jO (F:=⟨2,14,UG⟩) (EJ:=[some (.d t.d),some (.d (bA w)),none,none,none,none,none,none,none,none,none,none,none,none]) rfl rfl rfl
  (sQ (bz:=[some (.d t.d),some (.d (bA w)),none,none,none,none,none,none,none,none,none,none,none,none]) (aj:=⟨pm,[]⟩) rfl
  (sQ (bz:=[some (.d t.d),some (.d (bA w)),some (.d (.int t.key)),some (.d (.int t.opt)),some (.d (.int t.ro)),some (.d (.int t.mask)),some (.d (.bool t.mem)),none,none,none,none,none,none,none]) (aj:=⟨pm,[]⟩) rfl
  (sQ PR (sQ (bz:=Ge t.d (bA w) (f_ (gv t.key w)) t.key t.opt t.ro t.mask t.mem none none none none none) (aj:=⟨pm,[.dict []]⟩) rfl
  (sQ (uW (cY s5 (ak rfl) (getX (i:=3) t.key hk rfl)) (VJ t.key hk) e) (bS (fz (ak c.h8)))))))) ?_
 have c6:decide ((1:Int)<t.key)=decide (1<t.key):=decide_eq_decide.mpr ();unfold jy y1;rw[<-nG t.opt 0,<-nG t.opt 1,<-nG t.opt 2,<-nG t.ro 0,<-nG t.ro 1,<-c6];rfl
theorem f82o{w:a9}{i:Nat}(hi:i<2):rn (n+1) 82 [.d (.tup [.int i]),.d (bA w)] pm []=some (.d (f_ (if i=1 then w.2.1 else w.1)),pm,[]):=by have:i=0\/i=1:=();rcases this with h|h<;>subst h<;>dsimp! [rfl]
end
def y6(cU fixed free closed eq3 sub0:Bool):List Int:=
 (if cU&&!free then[11]else if !closed&&!eq3 then[3]else[])++((if sub0 then[]else[0])++(if fixed&&!closed then[4]else[]))
def eG(kind:Nat)(free:Bool):Nat:=if free then kind|||8 else kind
def dg(gu:Nat)(cU free:Bool):Nat:=if cU&&!free then gu&&&55 else if cU then gu|||8 else gu
def iU:Option aU->aU->List Int
 |none,e=>if e.2.1 then[]else[11]
 |some s,e=>y6 s.2.1 s.2.2 e.2.1 e.2.2 (dg s.1 s.2.1 e.2.1==eG e.1 e.2.1) ((dg s.1 s.2.1 e.2.1&&&eG e.1 e.2.1)==dg s.1 s.2.1 e.2.1)
def qi(one other:ik):List Int:=(c9 other).flatMap λnm=>iU (a_ nm one) ((a_ nm other).getD (0,false,false))
def VL:Ss:=#[.ki [4,5,6] (.sub 'b' 'd'),.ite (.cmp .eX 'd' 'a') #[.ite (.nt 'f') #[.expr (.aR 'c' 0 #[11.0])] .nil,.cont] .nil,.ki [7,8,9] (.sub 'a' 'd'),.asg 10 (.ite 'f' (.bin .bor 'e' 8.0) 'e'),.asg 11 (.ite 'i' (.bin .bor 'h' 8.0) 'h'),.ite (.and #['i',.nt 'f']) #[.expr (.aR 'c' 0 #[11.0]),.asg 11 (.bin .band 'h' 55.0)] #[.ite (.and #[.nt 'g',.cmp .ne 'l' 'k']) #[.expr (.aR 'c' 0 #[3.0])] .nil],.ite (.cmp .ne (.bin .band 'l' 'k') 'l') #[.expr (.aR 'c' 0 #[0.0])] .nil,.ite (.and #['j',.nt 'g']) #[.expr (.aR 'c' 0 #[4.0])] .nil]
def th(A B:D)(x3 x4 x5 x6 x7 x8 x9 nj wb:Option PV):Ls:=[some (.d A),some (.d B),some (.aI 0),x3,x4,x5,x6,x7,x8,x9,nj,wb]
inductive Sc (A B:D) (x:Option PV):Ls->Prop
 |mk (x4 x5 x6 x7 x8 x9 nj wb:Option PV):Sc A B x (th A B x x4 x5 x6 x7 x8 x9 nj wb)
section
variable{pm:List MO}{n:Nat}{ls:Ls}{acc:List D}
theorem apF{k:Int}(h:ls[2]?= ~~~(.aI 0))(hl:acc.length<=1000000):exec (aH n) (.expr (.aR 'c' 0 #[.lit (.int k)])) ls ⟨pm,[.list acc]⟩=some (.next,ls,⟨pm,[.list (acc++[.int k])]⟩):=
 qA (Fp (r:=(.d .none,⟨pm,[.list (acc++[.int k])]⟩)) (ak h) rfl rfl (au aG bp) (by show dy (some (PV.d .none,PS.mk pm [TO.list (acc++[.int k])])) (fits acc)=_;rw[cT hl];rfl)) rfl
def Jp(b:Bool)(l:List Int):List Int:=if b then l else[]
theorem Jq{c:E}{b:Bool}{k:Int}(h:ls[2]?= ~~~(.aI 0))(hl:acc.length<=1000000)(ht:test (aH n) c ls ⟨pm,[.list acc]⟩=some (b,⟨pm,[.list acc]⟩)):
  exec (aH n) (.ite c #[.expr (.aR 'c' 0 #[.lit (.int k)])] .nil) ls ⟨pm,[.list acc]⟩=some (.next,ls,⟨pm,[.list (acc++(Jp b [k]).map .int)]⟩):=by
 cases b with
 |true=>exact bI ht ((av (apF h hl)).trans aP)
 |false=>
  refine(aS ht aP).trans ?_;show some (Fl.next,ls,PS.mk pm [.list acc])=some (.next,ls,⟨pm,[.list (acc++[])]⟩);rw[ej]
theorem neT{X:Cx}{σ:PS}{a b:E}{i j:Nat}(h1:eval X a ls σ=some (.d (.int i),σ))(h2:eval X b ls σ=some (.d (.int j),σ)):test X (.cmp .ne a b) ls σ=some (!(i==j),σ):=by rw[<-nG];exact aq (bW h1 h2 rfl)
theorem VM{X:Cx}{σ:PS}{i j v1 v2 v3:Nat}{t:ik}{nm:Nat}{e:aU}(h1:ls[i]?= ~~~(.d (f_ t)))(h2:ls[j]?= ~~~(.d (g_ nm)))(h:a_ nm t=some e):
  exec X (.ki [v1,v2,v3] (.sub (.loc i) (.loc j))) ls σ=some (.next,((ls.set v1 (some (.d (.int e.1)))).set v2 (some (.d (.bool e.2.1)))).set v3 (some (.d (.bool e.2.2))),σ):=by
 exact xh (cY (ak h1) (ak h2) (Ay h))
theorem PT{σ:PS}{X:Cx}{i j:Nat}{t:ik}{nm:Nat}(h1:ls[i]?= ~~~(.d (f_ t)))(h2:ls[j]?= ~~~(.d (g_ nm))):test X (.cmp .eX (.loc j) (.loc i)) ls σ=some (!(a_ nm t).isSome,σ):=by
 have g:isIn σ (.d (g_ nm)) (.d (f_ t))=some (a_ nm t).isSome:=by show dy (some (fM (g_ nm) (ku t))) (jm (g_ nm) (ku t))=_;rw[yZ,Av];rfl
 have c:compare .eX (.d (g_ nm)) (.d (f_ t)) σ=some (!(a_ nm t).isSome):=aq g;exact aq (bW (ak h2) (ak h1) c)
variable{A B:D}{x4 x5 x6 x7 x8 x9 nj wb:Option PV}
theorem Az(b:Bool)(k:Int):(Jp b [k]).length<=1:=by cases b<;>simp[Jp]
theorem flt0{kind:Nat}{free closed:Bool}:iU none (kind,free,closed)=Jp (!free) [11]:=by cases free<;>rfl
theorem flt3(hv kind:Nat)(cU fixed free closed:Bool):iU (some (hv,cU,fixed)) (kind,free,closed)=(if cU&&!free then[11]else Jp (!closed&&!(dg hv cU free==eG kind free)) [3])++(Jp (!(dg hv cU free&&&eG kind free==dg hv cU free)) [0]++Jp (fixed&&!closed) [4]):=by show _++((if (dg hv cU free&&&eG kind free==dg hv cU free)=true then[]else[0])++_)=_;cases (dg hv cU free&&&eG kind free==dg hv cU free)<;>rfl
theorem VN{x:Option PV}{fixed:Bool}(hv kind:Nat)(cU free closed:Bool)(hl:acc.length<=1000000):∃L:List Int,exec (aH n) (.ite (.and #['i',.nt 'f']) #[.expr (.aR 'c' 0 #[11.0]),.asg 11 (.bin .band 'h' 55.0)] #[.ite (.and #[.nt 'g',.cmp .ne 'l' 'k']) #[.expr (.aR 'c' 0 #[3.0])] .nil])
   (th A B x (some (.d (.int kind))) (some (.d (.bool free))) (some (.d (.bool closed))) (some (.d (.int hv))) (some (.d (.bool cU))) (some (.d (.bool fixed))) (some (.d (.int (eG kind free)))) (some (.d (.int (if cU then hv|||8 else hv:Nat))))) ⟨pm,[.list acc]⟩=
  some (.next,th A B x (some (.d (.int kind))) (some (.d (.bool free))) (some (.d (.bool closed))) (some (.d (.int hv))) (some (.d (.bool cU))) (some (.d (.bool fixed))) (some (.d (.int (eG kind free)))) (some (.d (.int (dg hv cU free)))),⟨pm,[.list (acc++L.map .int)]⟩)/\L.length<=1/\L=(if cU&&!free then[11]else Jp (!closed&&!(dg hv cU free==eG kind free)) [3]):=by
 unfold dg;cases h:cU&&!free with
 |true=>
  have t6:∀nj wb σ,test (aH n) (.and #['i',.nt 'f']) (th A B x (some (.d (.int kind))) (some (.d (.bool free))) (some (.d (.bool closed))) (some (.d (.int hv))) (some (.d (.bool cU))) (some (.d (.bool fixed))) nj wb) σ=some (true,σ):=λ_ _ _=>h▸mZ (lQ rfl) (OP (lQ rfl));exact⟨[11],bI (t6 _ _ _) ((av (apF rfl hl)).trans ((av (bC (dC (ak rfl) aG rfl))).trans aP)),dA _,rfl⟩
 |false=>
  have t6:∀nj wb σ,test (aH n) (.and #['i',.nt 'f']) (th A B x (some (.d (.int kind))) (some (.d (.bool free))) (some (.d (.bool closed))) (some (.d (.int hv))) (some (.d (.bool cU))) (some (.d (.bool fixed))) nj wb) σ=some (false,σ):=λ_ _ _=>h▸mZ (lQ rfl) (OP (lQ rfl));exact⟨Jp (!closed&&!((if cU then hv|||8 else hv)==eG kind free)) [3],aS (t6 _ _ _) ((av (Jq rfl hl (mZ (OP (lQ rfl)) (neT (i:=if cU then hv|||8 else hv) (j:=eG kind free) (ak rfl) (ak rfl))))).trans aP),Az _ _,rfl⟩
theorem PU{one other:ik}{nm:Nat}{e:aU}(h1:a_ nm other=some e)(hl:acc.length<=100000):
  ∃fl bo,execs (aH n) VL (th (f_ one) (f_ other) (some (.d (g_ nm))) x4 x5 x6 x7 x8 x9 nj wb) ⟨pm,[.list acc]⟩=
    some (fl,bo,⟨pm,[.list (acc++(iU (a_ nm one) e).map .int)]⟩)/\Sc (f_ one) (f_ other) (some (.d (g_ nm))) bo/\(fl= .next\/fl= .cont):=by
 have l1:acc.length<=1000000:=();unfold VL;rw[av (VM (i:=1) (j:=3) rfl rfl h1)];obtain⟨kind,free,closed⟩:=e;have tn:=PT (X:=aH n) (σ:=⟨pm,[.list acc]⟩) (i:=0) (j:=3) (t:=one) (nm:=nm) (ls:=th (f_ one) (f_ other) (some (.d (g_ nm))) (some (.d (.int kind))) (some (.d (.bool free))) (some (.d (.bool closed))) x7 x8 x9 nj wb) rfl rfl;cases hs:a_ nm one with
 |none=>
  rw[hs]at tn;have c:=bI (b:= .nil) tn ((av (Jq (b:=!free) (k:=11) rfl l1 (OP (lQ (i:=5) rfl)))).trans ((qB (s:= .cont) (r:= .nil) rfl)));rw[flt0];exact⟨_,_,qB c,.mk ..,.inr rfl⟩
 |some s=>
  rw[hs]at tn;obtain⟨hv,cU,fixed⟩:=s;obtain⟨L,s6,lL,eL⟩:=VN (n:=n) (pm:=pm) (A:=f_ one) (B:=f_ other) (x:=some (.d (g_ nm))) (fixed:=fixed) hv kind cU free closed l1;rw[flt3,<-eL,uD,uD,<-eI,<-eI];refine⟨_,_,(av (aS tn aP)).trans ((av (VM (i:=0) (j:=3) rfl rfl hs)).trans ((av (bC (PL (lQ rfl) (ak rfl)))).trans ((av (bC (PL (lQ rfl) (ak rfl)))).trans ((av s6).trans ((av (Jq rfl (by simp;omega) (neT (dC (ak rfl) (ak rfl) rfl) (ak rfl)))).trans ((av (Jq (b:=fixed&&!closed) rfl ?_ (mZ (lQ rfl) (OP (lQ rfl))))).trans aP)))))),.mk ..,.inl rfl⟩;have:=Az (!(dg hv cU free&&&eG kind free==dg hv cU free)) 0;simp;omega
end
theorem oY{n:Nat}:∀{t:ik},n∈c9 t->∃e,a_ n t=some e
 |[],h=>nomatch h
 |p::r,h=>by
  show∃e,((if Nat.beq n p.1 then some p.2 else a_ n r):Option aU)=some e;cases q:Nat.beq n p.1 with
  |true=>exact⟨p.2,rfl⟩
  |false=>
   rcases dJ.mp h with e|h
   ·rw[e,Nat.beq_refl]at q;cases q
   ·exact oY h
theorem AA(o:Option aU)(e:aU):(iU o e).length<=3:=by
 obtain⟨k,f,c⟩:=e;cases o with
 |none=>cases f<;>simp[iU]
 |some s=>
  unfold iU y6;simp only[dS];have h1:(if (s.2.1&&!f)=true then[(11:Int)]else if (!c&&!(dg s.1 s.2.1 f==eG k f))=true then[3]else[]).length<=1:=by
   split
   ·exact dA _
   ·split
    ·exact dA _
    ·exact eJ _
  have h2:(if ((dg s.1 s.2.1 f&&&eG k f)==dg s.1 s.2.1 f)=true then[]else[(0:Int)]).length<=1:=by split;exact eJ _;exact dA _
  have h3:(if (s.2.2&&!c)=true then[(4:Int)]else[]).length<=1:=by split;exact dA _;exact eJ _
  exact hZ h1 (hZ h2 h3)
section
variable{pm:List MO}{n:Nat}
theorem PW{one other:ik}(l:List Nat):∀(acc:List D) {x3:Option PV} {ls:Ls},Sc (f_ one) (f_ other) x3 ls->(∀nm∈l,nm∈c9 other)->acc.length+3*l.length<=100000->
  ∃bo y3,dO (λl s=>execs (aH n) VL l s) (kf 3) (l.map g_) ls ⟨pm,[.list acc]⟩=
   some (.next,bo,⟨pm,[.list (acc++(l.flatMap λnm=>iU (a_ nm one) ((a_ nm other).getD (0,false,false))).map .int)]⟩)/\Sc (f_ one) (f_ other) y3 bo:=by
 induction l with
 |nil=>
  intro acc x3 ls c _ _;exact⟨ls,x3,congrArg (λz=>some (Fl.next,ls,PS.mk pm [TO.list z])) (ej acc).symm,c⟩
 |cons nm l ih=>
  rintro acc _ _ ⟨⟩ h hl;simp only[fw]at hl;obtain⟨e,he⟩:=oY (h nm (.head _));obtain⟨fl,ls1,e1,c1,hf⟩:=PU (n:=n) (pm:=pm) (one:=one) (acc:=acc) he ();obtain⟨EK,y,e2,c2⟩:=ih (acc++(iU (a_ nm one) e).map .int) c1 (λz hz=>h z (.tail _ hz)) (by rw[dS,eT];exact od1 hl (eU (AA _ _) _));refine⟨EK,y,?_,c2⟩;have ee:(List.flatMap (λnm=>iU (a_ nm one) ((a_ nm other).getD (0,false,false))) (nm::l))=iU (a_ nm one) e++l.flatMap λnm=>iU (a_ nm one) ((a_ nm other).getD (0,false,false)):=by rw[List.flatMap_cons,he];rfl
  rw[ee,uD,<-eI,<-e2];exact hf.elim (λz=>fJ rfl (z▸e1) rfl) λz=>z6 rfl (z▸e1) rfl
theorem f83{one other:ik}(hl:other.length<=100):rn (n+1) 83 [.d (f_ one),.d (f_ other)] pm []=some (.d (.lst ((qi one other).map .int)),pm,[]):=by
 have hn:(c9 other).length<=100:=by simpa[c9]using hl
 obtain⟨ls,y3,e,c⟩:=PW (n:=n) (pm:=pm) (one:=one) (other:=other) (x3:=none) (c9 other) [] (.mk none none none none none none none none) (λ_ h=>h) (by simp;omega);cases c;have s1:exec (aH n) (.asg 2 (.lst .nil)) [some (.d (f_ one)),some (.d (f_ other)),none,none,none,none,none,none,none,none,none,none] ⟨pm,[]⟩=some (.next,th (f_ one) (f_ other) none none none none none none none none none,⟨pm,[.list []]⟩):=by dsimp! [rfl]
 have s2:=uW (X:=aH n) (i:=3) (b:=VL) (it:= .loc 1) (ls:=th (f_ one) (f_ other) none none none none none none none none none) (σ:=⟨pm,[.list []]⟩) (x:= .d (f_ other)) (fy:= .none) (ak rfl) (by show dy _ (jn _)=_;rw[xg];exact congrArg (λz=>some (z,_,_)) (Ax _)) e;rw[cG [some (.d (f_ one)),some (.d (f_ other)),none,none,none,none,none,none,none,none,none,none] (show p8 83=some ⟨2,12,Ot⟩from rfl) rfl rfl];unfold Ot;dsimp only;rw[av s1];unfold VL at s2;rw[av s2,bS (fz (ak (show(th _ _ _ _ _ _ _ _ _ _ _)[2]?= ~~~(.aI 0)from rfl)))];rfl
end
abbrev jW:=Option aU×aU
def eA(k:Nat):aU:=(k,false,false)
def sA(k:Nat):Option aU:=some (k,false,false)
def eB(k:Nat):aU:=(k,true,false)
def sB(k:Nat):Option aU:=some (k,true,false)
def eC(k:Nat):aU:=(k,false,true)
def sC(k:Nat):Option aU:=some (k,false,true)
def eD(k:Nat):aU:=(k,true,true)
def sD(k:Nat):Option aU:=some (k,true,true)
def S0:List jW:=[(sA 32,eA 32),(sB 32,eB 32),(sC 1,eC 1),(sC 33,eC 33),(sD 32,eD 32)]
def S1:List jW:=[(none,eA 32),(sA 32,eA 32),(sB 32,eB 32),(sC 1,eC 1),(sC 1,eA 1),(sB 32,eA 40),(sC 33,eC 33),(sD 32,eD 32),(sC 33,eA 33),(sD 32,eB 32),(sD 32,eC 40)]
def S2:List jW:=[(none,eA 0),(sA 32,eA 0),(sB 32,eA 0),(sC 1,eA 0),(sC 33,eA 0),(sD 32,eA 0)]
def S3:List jW:=[(none,eA 0),(sA 32,eA 0),(sB 32,eA 0),(sC 33,eA 0)]
def S4:List jW:=[(sA 32,eA 32),(sB 32,eB 32),(sC 1,eC 1),(sA 1,eC 1),(sA 40,eB 32),(none,eB 32),(sC 33,eC 33),(sD 32,eD 32),(sA 33,eC 33),(sB 32,eD 32),(sC 40,eD 32),(none,eD 32)]
def S5:List jW:=[(sA 32,eA 32),(sB 32,eB 32),(sC 1,eC 1),(sA 1,eA 1),(sA 40,eA 40),(sC 33,eC 33),(sD 32,eD 32),(sA 33,eA 33),(sC 40,eC 40)]
def S6:List jW:=[(sA 32,eA 32),(sB 32,eB 32),(sA 40,eB 32),(none,eB 32),(sC 1,eC 1),(sA 1,eC 1),(sC 33,eC 33),(sA 33,eC 33),(sD 32,eD 32),(sB 32,eD 32),(sC 40,eD 32),(none,eD 32)]
def S7:List jW:=[(none,eA 0),(sA 32,eA 0),(sB 32,eA 0),(sA 40,eA 0),(sC 1,eA 0),(sA 1,eA 0),(sC 33,eA 0),(sA 33,eA 0),(sD 32,eA 0),(sC 40,eA 0)]
def S8:List jW:=[(none,eA 0),(sA 32,eA 0),(sB 32,eA 0),(sC 1,eA 0),(sA 1,eA 0),(sA 40,eA 0),(sC 33,eA 0),(sD 32,eA 0),(sA 33,eA 0),(sC 40,eA 0)]
def S9:List jW:=[(none,eA 0),(sA 32,eA 0),(sB 32,eA 0),(sA 40,eA 0),(sC 33,eA 0),(sA 33,eA 0)]
def S10:List jW:=[(sA 32,eA 32),(sB 32,eB 32),(none,eC 1),(none,eB 32),(sC 1,eC 1),(sC 33,eC 33),(none,eD 32),(none,eC 33),(sD 32,eD 32)]
def S11:List jW:=[(sA 32,eA 32),(none,eA 32),(sB 32,eB 32),(none,eC 1),(none,eA 1),(sB 32,eA 40),(none,eB 32),(sC 1,eC 1),(sC 1,eA 1),(none,eA 40),(sC 33,eC 33),(none,eD 32),(sC 33,eA 33),(none,eC 40),(none,eC 33),(sD 32,eD 32),(none,eA 33),(sD 32,eB 32),(sD 32,eC 40)]
def S12:List jW:=[(sA 32,eA 0),(none,eA 0),(sB 32,eA 0),(sC 1,eA 0),(sC 33,eA 0),(sD 32,eA 0)]
def S13:List jW:=[(sA 32,eA 0),(sB 32,eA 0),(none,eA 0),(sC 33,eA 0)]
def S14:List jW:=[(sA 32,eA 32),(sB 32,eB 32),(sC 1,eC 1),(none,eC 1),(none,eB 32),(sC 33,eC 33),(sD 32,eD 32),(none,eD 32),(none,eC 33)]
def S15:List jW:=[(sA 0,eA 32),(none,eA 32),(sA 0,eB 32),(none,eC 1),(none,eB 32),(sA 0,eC 1),(sA 0,eC 33),(none,eD 32),(none,eC 33),(sA 0,eD 32)]
def S16:List jW:=[(none,eA 32),(sA 0,eA 32),(sA 0,eB 32),(none,eC 1),(none,eA 1),(sA 0,eA 40),(none,eB 32),(sA 0,eC 1),(sA 0,eA 1),(none,eA 40),(sA 0,eC 33),(none,eD 32),(sA 0,eA 33),(none,eC 40),(none,eC 33),(sA 0,eD 32),(none,eA 33),(sA 0,eC 40)]
def S17:List jW:=[(sA 0,eA 32),(none,eA 32),(sA 0,eB 32),(none,eB 32),(none,eC 1),(sA 0,eC 1),(sA 0,eC 33),(none,eC 33),(none,eD 32),(sA 0,eD 32)]
def S18:List jW:=[(sA 0,eA 0)]
def S19:List jW:=[(sA 0,eA 0),(none,eA 0)]
def S20:List jW:=[(sA 0,eA 32),(sA 0,eB 32),(sA 0,eC 1),(sA 0,eC 33),(sA 0,eD 32)]
def S21:List jW:=[(none,eA 32),(sA 0,eA 32),(sA 0,eB 32),(sA 0,eC 1),(sA 0,eA 1),(sA 0,eA 40),(sA 0,eC 33),(sA 0,eD 32),(sA 0,eA 33),(sA 0,eC 40)]
def S22:List jW:=[(sA 0,eA 32),(sA 0,eB 32),(none,eC 1),(sA 0,eC 33),(none,eD 32)]
def S23:List jW:=[(none,eA 32),(sA 0,eA 32),(sA 0,eB 32),(none,eC 1),(none,eA 1),(sA 0,eA 40),(sA 0,eC 33),(none,eD 32),(sA 0,eA 33),(none,eB 32),(none,eC 40)]
def VO:List Nat:=[0,1,0,0,2,2,3,0,1,4,5,6,6,7,8,9,4,5,10,11,0,0,12,12,13,10,11,10,11,14,0,12,12,13,10,11,15,16,17,17,18,19,19,15,16,20,21,20,20,18,18,18,20,21,22,23,22,22,19,19,18,22,23,0,1,0,0,2,2,3,0,0,4,5,6,6,7,8,9,0,0]
def dP(a b:Nat):List jW:=match VO[9*a+b]? with
 |some 0=>S0
 |some 1=>S1
 |some 2=>S2
 |some 3=>S3
 |some 4=>S4
 |some 5=>S5
 |some 6=>S6
 |some 7=>S7
 |some 8=>S8
 |some 9=>S9
 |some 10=>S10
 |some 11=>S11
 |some 12=>S12
 |some 13=>S13
 |some 14=>S14
 |some 15=>S15
 |some 16=>S16
 |some 17=>S17
 |some 18=>S18
 |some 19=>S19
 |some 20=>S20
 |some 21=>S21
 |some 22=>S22
 |some 23=>S23
 |_=>[]
def cK(a:Nat):Nat:=if a<7 then a else 1
def Jr(a b c:Nat):Bool:=cK a==c||cK b==c
def bY(a b:Nat):List a9:=qF (Jr a b 1) (Jr a b 2) (Jr a b 3) (Jr a b 4)
def DK(a:Nat)(w:a9):ik:=if a=7 then w.1 else w.2.1
def iG(a:Nat)(w:a9):List Nat:=if a<7 then fF a w else c9 (DK a w)
def Gi(a:Nat)(w:a9)(nm:Nat):aU:=if a<7 then Gh a w nm else(a_ nm (DK a w)).getD (0,false,false)
def Js(a b:Nat)(w:a9)(nm:Nat):jW:=(if (iG a w).contains nm then some (Gi a w nm)else none,Gi b w nm)
def genS(a b:Nat):List jW:=(bY a b).flatMap λw=>(iG b w).map (Js a b w)
def LM(a:Nat)(w:a9):Bool:=if a<7 then Yo a w else decide ((DK a w).length<=100)
def i_(a b:Nat):Bool:=((genS a b).all λs=>(dP a b).contains s)&&(((dP a b).all λs=>(genS a b).contains s)&&((bY a b).all λw=>LM a w&&LM b w))
def R9:List Nat:=[0,1,2,3,4,5,6,7,8]
theorem sit0:(R9.all λb=>i_ 0 b)=true:=by decide+kernel
theorem sit1:(R9.all λb=>i_ 1 b)=true:=by decide+kernel
theorem sit2:(R9.all λb=>i_ 2 b)=true:=by decide+kernel
theorem sit3:(R9.all λb=>i_ 3 b)=true:=by decide+kernel
theorem sit4:(R9.all λb=>i_ 4 b)=true:=by decide+kernel
theorem sit5:(R9.all λb=>i_ 5 b)=true:=by decide+kernel
theorem sit6:(R9.all λb=>i_ 6 b)=true:=by decide+kernel
theorem sit7:(R7.all λb=>i_ 7 b)=true:=by decide+kernel
theorem sit8:(R7.all λb=>i_ 8 b)=true:=by decide+kernel
def fy(g:Bool)(o:Nat)(e:aU):Bool:=if g then o==1 else if o==0 then e.2.1 else o==1
def fx(g:Bool)(r:Nat)(e:aU):Bool:=if g then r==1 else if r==0 then e.2.2 else r==1
def Jt(m:Nat)(mem:Bool)(e:aU):Nat:=if mem then(if e.2.1 then(m|||e.1)|||8 else m|||e.1)else m
def mk(g:Bool)(o m:Nat)(mem:Bool)(e:aU):Nat:=if g then Jt m mem e else if o==2&&e.2.1 then Jt m mem e&&&55 else Jt m mem e
theorem AB(t:az)(e:aU):y1 t e=(mk (decide (1<t.key)) t.opt t.mask t.mem e,fy (decide (1<t.key)) t.opt e,fx (decide (1<t.key)) t.ro e):=by unfold y1 DJ mk fy fx Jt;cases decide (1<t.key)<;>rfl
def Sl(L1 L2:aU->Bool)(s:jW):Bool:=match s.1 with
 |none=>!L2 s.2
 |some a=>L1 a&&!L2 s.2
def jz(X1 X2:aU->Bool)(s:jW):Bool:=match s.1 with
 |none=>false
 |some a=>X1 a&&!X2 s.2
def fZ(L1 L2 X2:aU->Bool)(q:aU->aU->Bool)(s:jW):Bool:=match s.1 with
 |none=>false
 |some a=>!(L1 a&&!L2 s.2)&&(!X2 s.2&&!q a s.2)
def s0(q:aU->aU->Bool)(s:jW):Bool:=match s.1 with
 |none=>false
 |some a=>!q a s.2
def eqQ(M1 M2:aU->Nat)(L1 L2:aU->Bool)(a e:aU):Bool:=dg (M1 a) (L1 a) (L2 e)==eG (M2 e) (L2 e)
def H6(M1 M2:aU->Nat)(L1 L2:aU->Bool)(a e:aU):Bool:=(dg (M1 a) (L1 a) (L2 e)&&&eG (M2 e) (L2 e))==dg (M1 a) (L1 a) (L2 e)
def dF(b:Bool)(f:Bool->Bool):Bool:=match b with
 |true=>f true
 |false=>f false
theorem Gj(b:Bool)(f:Bool->Bool):dF b f=f b:=by cases b<;>rfl
def BB:List Bool:=[false,true]
def R3:List Nat:=[0,1,2]
def rk(o:Nat):Nat:=if o==2 then 0 else o+1
def Ju(K1 K2:Nat):Bool:=K1==K2||[(1,0),(0,2),(0,3),(2,3),(5,4),(5,6)].contains (K1,K2)
def Gk(K1 K2 o1 o2:Nat):Bool:=if K2==2||K2==3 then o2==0&&!(o1==1)else K1==1&&(K2==0&&o1==2)
def Yq(kq a1 a2:Bool)(r1 r2:Nat):Bool:=(r1==1&&!(r2==1))||((r1==0&&r2==2)||(!kq&&(!a2&&(r1==0&&(r2==0&&a1)))))
def Yr(kq a2 eq:Bool)(o1 o2 r2:Nat):Bool:=!(r2==1)&&(!(o1==o2)||((!kq&&(o2==0&&a2))||!eq))
def Jv(kq a2:Bool)(o2:Nat):Bool:=!kq&&(o2==2||(o2==0&&!a2))
def Gl(lets same pJ lax own:Bool)(n3 n4 zU iy f3 f4 lR:Bool):Bool:=
 (if lets then(!iy&&((!f3||n3)&&((!f4||n4)&&(!lR||zU))))&&(!own||(n3==f3&&(n4==f4&&zU==lR)))else !(pJ&&(!iy&&(!lR||lax))))&&
  (!same||(lets&&!(n3||(n4||zU))))
def ti(K1 K2:Nat)(S:List jW):Bool:=
 dF (decide (1<K1)) λg1=>dF (decide (1<K2)) λg2=>dF (Sj K1 K2) λli=>dF (decide (bN K1=bN K2)) λob=>dF (K1==K2) λkq=>dF (decide (K1<2)) λa1=>dF (decide (K2<2)) λa2=>
 dF (decide (K1<4)) λc1=>dF (decide (K2<4)) λc2=>dF (Ju K1 K2) λll=>dF (S.any λs=>s.1.isSome) λf0a=>
 R3.all λo1=>(g1&&o1==2)||R3.all λo2=>(g2&&o2==2)||dF (decide (rk o1<=rk o2)) λro=>dF (Gk K1 K2 o1 o2) λlax=>dF (Jv kq a2 o2) λzU=>
 dF (S.any (Sl (fy g1 o1) (fy g2 o2))) λlR=>
 R3.all λr2=>dF (S.any (fZ (fy g1 o1) (fy g2 o2) (fx g2 r2) λ_ _=>false)) λf3a=>
 dF (S.any (jz (fx g1 0) (fx g2 r2))) λf40=>dF (S.any (jz (fx g1 1) (fx g2 r2))) λYd=>dF (S.any (jz (fx g1 2) (fx g2 r2))) λf42=>
 BB.all λe1=>(e1&&!c1)||BB.all λe2=>(e2&&!c2)||BB.all λb1=>BB.all λeN=>
 dF (S.any (s0 (H6 (mk g1 o1 b1.toNat e1) (mk g2 o2 eN.toNat e2) (fy g1 o1) (fy g2 o2)))) λf0l=>
 dF (S.any (fZ (fy g1 o1) (fy g2 o2) (fx g2 r2) (eqQ (mk g1 o1 b1.toNat e1) (mk g2 o2 eN.toNat e2) (fy g1 o1) (fy g2 o2)))) λf3l=>
 dF ((!b1||eN)&&(!e1||(e2&&ob))) λsu=>dF (b1==eN&&(e1==e2&&(!e1||ob))) λeq0=>dF (b1==eN&&(e1==e2&&kq)) λsm=>dF (ll&&!(e1&&(e2&&!((K1==1)==(K2==1))))) λpJ=>
 R3.all λr1=>dF (Yq kq a1 a2 r1 r2) λn4=>R3.all λhi=>
  Gl (ro&&(li&&(su&&!(hi==2)))) (sm&&(hi==0&&(o1==o2&&r1==r2))) pJ lax (a1&&a2) (Yr kq a2 (eq0&&hi==0) o1 o2 r2) n4 zU
   (if hi==2 then f0a else f0l) (if hi==0 then f3l else f3a) (if r1==0 then f40 else if r1==1 then Yd else f42) lR
theorem VP:(R7.all λb=>ti 0 b (dP 0 b))=true:=by decide+kernel
theorem VQ:(R7.all λb=>ti 1 b (dP 1 b))=true:=by decide+kernel
theorem VS:(R7.all λb=>ti 2 b (dP 2 b))=true:=by decide+kernel
theorem VT:(R7.all λb=>ti 3 b (dP 3 b))=true:=by decide+kernel
theorem VU:(R7.all λb=>ti 4 b (dP 4 b))=true:=by decide+kernel
theorem VV:(R7.all λb=>ti 5 b (dP 5 b))=true:=by decide+kernel
theorem VW:(R7.all λb=>ti 6 b (dP 6 b))=true:=by decide+kernel
theorem xj{o:Nat}(h:o<3):o∈R3:=by have:o=0\/o=1\/o=2:=();unfold R3;simpa using this
theorem yu(b:Bool):b∈BB:=by cases b<;>simp[BB]
theorem Jw{a b:Nat}(ha:a<7)(hb:b<7):ti a b (dP a b)=true:=by
 have:a=0\/a=1\/a=2\/a=3\/a=4\/a=5\/a=6:=();rcases this with e|e|e|e|e|e|e<;>subst e
 ·exact bf.mp VP b (iF hb)
 ·exact bf.mp VQ b (iF hb)
 ·exact bf.mp VS b (iF hb)
 ·exact bf.mp VT b (iF hb)
 ·exact bf.mp VU b (iF hb)
 ·exact bf.mp VV b (iF hb)
 ·exact bf.mp VW b (iF hb)
theorem Gm{K1 K2:Nat}{S:List jW}(h:ti K1 K2 S=true){o1 r1 o2 r2 hi:Nat}(b1 e1 eN e2:Bool)(ho1:o1<3)(hr1:r1<3)(ho2:o2<3)(hr2:r2<3)(hh:hi<3)(v1:1<K1->o1≠2)(v2:1<K2->o2≠2)(w1:e1=true->K1<4)(w2:e2=true->K2<4):
  Gl (decide (rk o1<=rk o2)&&(Sj K1 K2&&(((!b1||eN)&&(!e1||(e2&&decide (bN K1=bN K2))))&&!(hi==2)))) ((b1==eN&&(e1==e2&&(K1==K2)))&&(hi==0&&(o1==o2&&r1==r2))) (Ju K1 K2&&!(e1&&(e2&&!((K1==1)==(K2==1))))) (Gk K1 K2 o1 o2) (decide (K1<2)&&decide (K2<2))
   (Yr (K1==K2) (decide (K2<2)) ((b1==eN&&(e1==e2&&(!e1||decide (bN K1=bN K2))))&&hi==0) o1 o2 r2) (Yq (K1==K2) (decide (K1<2)) (decide (K2<2)) r1 r2) (Jv (K1==K2) (decide (K2<2)) o2)
   (if hi==2 then S.any λs=>s.1.isSome else S.any (s0 (H6 (mk (decide (1<K1)) o1 b1.toNat e1) (mk (decide (1<K2)) o2 eN.toNat e2) (fy (decide (1<K1)) o1) (fy (decide (1<K2)) o2))))
   (if hi==0 then S.any (fZ (fy (decide (1<K1)) o1) (fy (decide (1<K2)) o2) (fx (decide (1<K2)) r2) (eqQ (mk (decide (1<K1)) o1 b1.toNat e1) (mk (decide (1<K2)) o2 eN.toNat e2) (fy (decide (1<K1)) o1) (fy (decide (1<K2)) o2)))else S.any (fZ (fy (decide (1<K1)) o1) (fy (decide (1<K2)) o2) (fx (decide (1<K2)) r2) λ_ _=>false))
   (S.any (jz (fx (decide (1<K1)) r1) (fx (decide (1<K2)) r2))) (S.any (Sl (fy (decide (1<K1)) o1) (fy (decide (1<K2)) o2)))=true:=by
 unfold ti at h;simp only[Gj]at h;have h:=bf.mp h o1 (xj ho1);rw[mO]at h;have h:=h.resolve_left (by intro q;rw[bx,dK]at q;exact v1 q.1 (cj q.2))
 have h:=bf.mp h o2 (xj ho2);rw[mO]at h;have h:=h.resolve_left (by intro q;rw[bx,dK]at q;exact v2 q.1 (cj q.2))
 have h:=bf.mp h r2 (xj hr2);have h:=bf.mp h e1 (yu e1);rw[mO]at h;have h:=h.resolve_left (by intro q;rw[bx,pY,EU]at q;exact q.2 (w1 q.1))
 have h:=bf.mp h e2 (yu e2);rw[mO]at h;have h:=h.resolve_left (by intro q;rw[bx,pY,EU]at q;exact q.2 (w2 q.1))
 have h:=bf.mp (bf.mp h b1 (yu b1)) eN (yu eN);have h:=bf.mp (bf.mp h r1 (xj hr1)) hi (xj hh);have e4:(if r1==0 then S.any (jz (fx (decide (1<K1)) 0) (fx (decide (1<K2)) r2))else if r1==1 then S.any (jz (fx (decide (1<K1)) 1) (fx (decide (1<K2)) r2))else S.any (jz (fx (decide (1<K1)) 2) (fx (decide (1<K2)) r2)))=S.any (jz (fx (decide (1<K1)) r1) (fx (decide (1<K2)) r2)):=by have:r1=0\/r1=1\/r1=2:=();rcases this with e|e|e<;>subst e<;>rfl
 rw[e4]at h;exact h
def oL(e:aU):Bool:=e.2.1
def oX(e:aU):Bool:=e.2.2
def oM(e:aU):Nat:=e.1
def Sm(only ko:Bool)(r:Nat):Bool:=if only then r==2||(r==0&&!ko)else !(r==1)
def Sn(only:Bool)(o r:Nat):Bool:=if only then o==1&&!(r==1)else !(r==1)
def So(only ko:Bool)(o:Nat):Bool:=if only then o==0&&!ko else !ko
def PX(i:Nat)(t:az):Bool:=(if i==0 then t.key==0||(t.key==2||t.key==3)else t.key==1)&&!(t.opt==1&&decide (0<t.mask))
def PY(t:az):Bool:=(t.key==2||t.key==3)&&t.opt==0
def Jx(i:Nat)(t:az)(n3 n4 n5 iy f3 f4 lR:Bool):Bool:=
 if jx i t then(!iy&&((!f3||n3)&&((!f4||n4)&&(!lR||n5))))&&(!(t.mask==0||decide (1<t.key))||(n3==f3&&(n4==f4&&n5==lR)))else !(PX i t&&(!iy&&(!lR||PY t)))
def Jy(t:az)(i:Nat)(iy f3 f4 lR:Bool):Bool:=
 if nF t i then !iy&&(!lR&&(t.ro==1)==f4)else !(t.key==i&&(!iy&&!lR))
def gO(t:az):Bool:=decide (1<t.key)
def fB(t:az)(S:List jW)(r:Bool->Bool->Bool->Bool->Bool):Bool:=
 r (S.any (s0 (H6 oM (mk (gO t) t.opt t.mask t.mem) oL (fy (gO t) t.opt)))) (S.any (fZ oL (fy (gO t) t.opt) (fx (gO t) t.ro) (eqQ oM (mk (gO t) t.opt t.mask t.mem) oL (fy (gO t) t.opt))))
  (S.any (jz oX (fx (gO t) t.ro))) (S.any (Sl oL (fy (gO t) t.opt)))
def fC(t:az)(S:List jW)(r:Bool->Bool->Bool->Bool->Bool):Bool:=
 r (S.any (s0 (H6 (mk (gO t) t.opt t.mask t.mem) oM (fy (gO t) t.opt) oL))) (S.any (fZ (fy (gO t) t.opt) oL oX (eqQ (mk (gO t) t.opt t.mask t.mem) oM (fy (gO t) t.opt) oL)))
  (S.any (jz (fx (gO t) t.ro) oX)) (S.any (Sl (fy (gO t) t.opt) oL))
def Jz(k:Nat)(f:az->Bool):Bool:=
 R3.all λo=>(decide (1<k)&&o==2)||R3.all λr=>(List.range 8).all λm=>BB.all λe=>(e&&!decide (k<4))||((m==0&&!e)||f ⟨k,o,r,m,e⟩)
def VX(i k:Nat):Bool:=Jz k λt=>fB t (dP (7+i) k) (Jx i t (Sn (eg i t) t.opt t.ro) (Sm (eg i t) (t.key==i) t.ro) (So (eg i t) (t.key==i) t.opt))
def VY(i k:Nat):Bool:=Jz k λt=>fC t (dP k (7+i)) (Jy t i)
theorem VZ:(R7.all λk=>VX 0 k)=true:=by decide+kernel
theorem V0:(R7.all λk=>VX 1 k)=true:=by decide+kernel
theorem V3:(R7.all λk=>VY 0 k)=true:=by decide+kernel
theorem V4:(R7.all λk=>VY 1 k)=true:=by decide+kernel
structure az.Dr (t:az):Prop where
 ok:t.Ok
 fr:t.key<2\/t.opt<2
 he:t.mem=true->t.key<4
theorem qG{t:az}(d:t.Dr){f:az->Bool}(h:Jz t.key f=true):f t=true:=by
 unfold Jz at h;have h:=bf.mp h t.opt (xj d.ok.opt);rw[mO]at h;have h:=h.resolve_left (by intro q;rw[bx,dK]at q;have:=cj q.2;have:=d.fr;omega)
 have h:=bf.mp (bf.mp (bf.mp h t.ro (xj d.ok.ro)) t.mask (wj.mpr d.ok.mask)) t.mem (yu _);rw[mO]at h;have h:=h.resolve_left (by intro q;rw[bx,pY,EU]at q;exact q.2 (d.he q.1))
 rw[mO]at h;exact h.resolve_left (by
  intro q;rw[bx,pY]at q;have:=cj q.1;rcases d.ok.ne with z|z
  ·omega
  ·rw[z]at q;cases q.2)
theorem JA{i:Nat}{t:az}(hi:i<2)(d:t.Dr):fB t (dP (7+i) t.key) (Jx i t (Sn (eg i t) t.opt t.ro) (Sm (eg i t) (t.key==i) t.ro) (So (eg i t) (t.key==i) t.opt))=true:=by
 have:i=0\/i=1:=();rcases this with e|e<;>subst e
 ·exact qG d (bf.mp VZ t.key (iF d.ok.key))
 ·exact qG d (bf.mp V0 t.key (iF d.ok.key))
theorem JB{i:Nat}{t:az}(hi:i<2)(d:t.Dr):fC t (dP t.key (7+i)) (Jy t i)=true:=by
 have:i=0\/i=1:=();rcases this with e|e<;>subst e
 ·exact qG d (bf.mp V3 t.key (iF d.ok.key))
 ·exact qG d (bf.mp V4 t.key (iF d.ok.key))
structure oZ (a:Nat) (E:aU->aU) (tb:a9->ik):Prop where
 nm:∀w,c9 (tb w)=iG a w
 lo:∀w n,a_ n (tb w)=if (iG a w).contains n then some (E (Gi a w n))else none
theorem xl{f:Nat->aU}{n:Nat}:∀l:List Nat,a_ n (l.map λm=>(m,f m))=if l.contains n then some (f n)else none
 |[]=>rfl
 |m::l=>by
  show((if Nat.beq n m then some (f m)else a_ n (l.map λm=>(m,f m))):Option aU)=_;rw[xl l,wH,List.contains_cons];by_cases h:n=m
  ·subst h;simp
  ·simp[h]
theorem vj(t:az)(hk:t.key<7):oZ t.key (y1 t) (jy t):=by
 refine⟨λw=>?_,λw n=>?_⟩
 ·unfold iG jy c9;rw[if_pos hk,List.map_map];simp[Function.comp_def]
 ·unfold iG Gi jy;rw[if_pos hk,if_pos hk,xl]
theorem DL{n:Nat}(t:ik):a_ n t=if (c9 t).contains n then some ((a_ n t).getD (0,false,false))else none:=by
 by_cases h:n∈c9 t
 ·obtain⟨e,he⟩:=oY h;rw[if_pos (by simpa using h),he];rfl
 ·rw[if_neg (by simpa using h),oW h]
theorem Gn{i:Nat}(hi:i<2):oZ (7+i) id (DK (7+i)):=by
 refine⟨λw=>?_,λw n=>?_⟩
 ·unfold iG;rw[if_neg ()]
 ·unfold iG Gi;have z:¬7+i<7:=();rw[if_neg z,if_neg z];exact DL _
def cP(f1 f2:a9->ik)(ws:List a9):List Int:=ws.flatMap λw=>qi (f1 w) (f2 w)
theorem JC{a b:Nat}{E1 E2:aU->aU}{f1 f2:a9->ik}(A:oZ a E1 f1)(B:oZ b E2 f2)(c:Int):c∈cP f1 f2 (bY a b)<->∃s∈genS a b,c∈iU (s.1.map E1) (E2 s.2):=by
 have key:∀w n,n∈iG b w->iU (a_ n (f1 w)) ((a_ n (f2 w)).getD (0,false,false))=iU ((Js a b w n).1.map E1) (E2 (Js a b w n).2):=λw n hn=>by unfold Js;rw[A.lo,B.lo,if_pos (show(iG b w).contains n=true by simpa using hn)];cases (iG a w).contains n<;>rfl
 unfold cP qi genS;simp only[List.mem_flatMap,qS];constructor
 ·rintro⟨w,hw,n,hn,h⟩;rw[B.nm]at hn;exact⟨_,⟨w,hw,n,hn,rfl⟩,by rw[<-key w n hn];exact h⟩
 ·rintro⟨s,⟨w,hw,n,hn,e⟩,h⟩;refine⟨w,hw,n,by rw[B.nm];exact hn,?_⟩;rw[key w n hn,e];exact h
theorem jA{a b:Nat}(h:(a<9/\b<7)\/(a<7/\b<9)):i_ a b=true:=by
 have h9:b∈R9:=(by decide:∀x<9,x∈R9) b (h.elim (λh=>pW h.2 ∅) And.right);have h7:7<=a->b<7:=λq=>h.elim And.right λh=>absurd q (Nat.not_le_of_lt h.1);rcases oa9 (h.elim And.left λh=>pW h.1 ∅)with e|e|e|e|e|e|e|e|e<;>subst e
 ·exact bf.mp sit0 b h9
 ·exact bf.mp sit1 b h9
 ·exact bf.mp sit2 b h9
 ·exact bf.mp sit3 b h9
 ·exact bf.mp sit4 b h9
 ·exact bf.mp sit5 b h9
 ·exact bf.mp sit6 b h9
 ·exact bf.mp sit7 b (iF (h7 ∅))
 ·exact bf.mp sit8 b (iF (h7 ∅))
theorem jX{a b:Nat}{E1 E2:aU->aU}{f1 f2:a9->ik}(h:i_ a b=true)(A:oZ a E1 f1)(B:oZ b E2 f2)(c:Int):(cP f1 f2 (bY a b)).contains c=(dP a b).any λs=>(iU (s.1.map E1) (E2 s.2)).contains c:=by
 unfold i_ at h;simp only[bx,bf,jH]at h;rw[jd,jH,JC A B,uA];constructor
 ·rintro⟨s,hs,hc⟩;exact⟨s,h.1 s hs,jH.mpr hc⟩
 ·rintro⟨s,hs,hc⟩;exact⟨s,h.2.1 s hs,jH.mp hc⟩
theorem kJ:∀la fi fr cl eq su:Bool,(y6 la fi fr cl eq su).contains 11=(la&&!fr)/\(y6 la fi fr cl eq su).contains 4=(fi&&!cl)/\(y6 la fi fr cl eq su).contains 3=(!(la&&!fr)&&(!cl&&!eq))/\(y6 la fi fr cl eq su).contains 0=!su/\∀c∈y6 la fi fr cl eq su,c=0\/c=3\/c=4\/c=11:=by decide+kernel
section
variable{M1 M2:aU->Nat}{L1 L2 X1 X2:aU->Bool}(s:jW)
theorem c11:(iU (s.1.map λe=>(M1 e,L1 e,X1 e)) (M2 s.2,L2 s.2,X2 s.2)).contains 11=Sl L1 L2 s:=by
 obtain⟨a,e⟩:=s;cases a with
 |none=>show(if L2 e=true then[]else[(11:Int)]).contains 11=!L2 e;cases L2 e<;>rfl
 |some a=>exact(kJ _ _ _ _ _ _).1
theorem c4:(iU (s.1.map λe=>(M1 e,L1 e,X1 e)) (M2 s.2,L2 s.2,X2 s.2)).contains 4=jz X1 X2 s:=by
 obtain⟨a,e⟩:=s;cases a with
 |none=>show(if L2 e=true then[]else[(11:Int)]).contains 4=false;cases L2 e<;>rfl
 |some a=>exact(kJ _ _ _ _ _ _).2.1
theorem c3:(iU (s.1.map λe=>(M1 e,L1 e,X1 e)) (M2 s.2,L2 s.2,X2 s.2)).contains 3=fZ L1 L2 X2 (eqQ M1 M2 L1 L2) s:=by
 obtain⟨a,e⟩:=s;cases a with
 |none=>show(if L2 e=true then[]else[(11:Int)]).contains 3=false;cases L2 e<;>rfl
 |some a=>exact(kJ _ _ _ _ _ _).2.2.1
theorem c0:(iU (s.1.map λe=>(M1 e,L1 e,X1 e)) (M2 s.2,L2 s.2,X2 s.2)).contains 0=s0 (H6 M1 M2 L1 L2) s:=by
 obtain⟨a,e⟩:=s;cases a with
 |none=>show(if L2 e=true then[]else[(11:Int)]).contains 0=false;cases L2 e<;>rfl
 |some a=>exact(kJ _ _ _ _ _ _).2.2.2.1
end
theorem AD{f1 f2:a9->ik}{ws:List a9}{c:Int}(h:c∈cP f1 f2 ws):c=0\/c=3\/c=4\/c=11:=by
 unfold cP qi at h;simp only[List.mem_flatMap]at h;obtain⟨w,_,n,_,h⟩:=h;unfold iU at h;split at h
 ·split at h
  ·cases h
  ·rw[jI.mp h];simp
 ·exact(kJ _ _ _ _ _ _).2.2.2.2 c h
def Sp:List Nat:=[0,1,32,33,40]
def rG(m m':Nat):Nat:=if m&&&6==m'&&&6 then 0 else if ((m&&&6)&&&(m'&&&6))==m&&&6 then 1 else 2
theorem PZ:(BB.all λg=>R3.all λo=>(List.range 8).all λm=>BB.all λe=>Sp.all λk=>BB.all λf=>decide (mk g o m e (k,f,false)<64/\mk g o m e (k,f,false)&&&6=m&&&6/\mk g o m e (k,f,false)&&&57=mk g o (bit m 0).toNat e (k,f,false)))=true:=by decide+kernel
theorem LN{g:Bool}{o m:Nat}{e:Bool}{x:aU}(ho:o<3)(hm:m<8)(hk:x.1∈Sp):mk g o m e x<64/\mk g o m e x&&&6=m&&&6/\mk g o m e x&&&57=mk g o (bit m 0).toNat e x:=by obtain⟨k,f,c⟩:=x;have:=bf.mp (bf.mp (bf.mp (bf.mp (bf.mp (bf.mp PZ g (yu g)) o (xj ho)) m (wj.mpr hm)) e (yu e)) k hk) f (yu f);exact of_decide_eq_true this
theorem P4:((List.range 64).all λx=>BB.all λl=>BB.all λf=>decide (dg x l f<64/\eG x f<64/\dg x l f&&&6=x&&&6/\eG x f&&&6=x&&&6/\dg x l f&&&57=dg (x&&&57) l f/\eG x f&&&57=eG (x&&&57) f))=true:=by decide+kernel
theorem LO{x:Nat}(l f:Bool)(h:x<64):dg x l f<64/\eG x f<64/\dg x l f&&&6=x&&&6/\eG x f&&&6=x&&&6/\dg x l f&&&57=dg (x&&&57) l f/\eG x f&&&57=eG (x&&&57) f:=
 of_decide_eq_true (bf.mp (bf.mp (bf.mp P4 x (wj.mpr h)) l (yu l)) f (yu f))
theorem JD:((List.range 64).all λx=>(List.range 64).all λy=>((x==y)==((x&&&57==y&&&57)&&(x&&&6==y&&&6)))&&(((x&&&y)==x)==((((x&&&57)&&&(y&&&57))==x&&&57)&&(((x&&&6)&&&(y&&&6))==x&&&6))))=true:=by decide+kernel
theorem P5{x y:Nat}(hx:x<64)(hy:y<64):(x==y)=((x&&&57==y&&&57)&&(x&&&6==y&&&6))/\((x&&&y)==x)=((((x&&&57)&&&(y&&&57))==x&&&57)&&(((x&&&6)&&&(y&&&6))==x&&&6)):=by have:=bf.mp (bf.mp JD x (wj.mpr hx)) y (wj.mpr hy);rw[bx]at this;exact⟨cj this.1,cj this.2⟩
theorem P6:((List.range 8).all λm=>(List.range 8).all λm'=>decide (rG m m'<3)&&(((rG m m'==0)==(m&&&6==m'&&&6))&&(((!(rG m m'==2))==(((m&&&6)&&&(m'&&&6))==m&&&6))&&
  ((tg m m'==((!bit m 0||bit m' 0)&&!(rG m m'==2)))&&(((tg m m'&&tg m' m)==(bit m 0==bit m' 0&&rG m m'==0))&&(decide (m=m')==(bit m 0==bit m' 0&&rG m m'==0)))))))=true:=by decide+kernel
theorem AE{m m':Nat}(h:m<8)(h':m'<8):rG m m'<3/\(rG m m'==0)=(m&&&6==m'&&&6)/\(!(rG m m'==2))=(((m&&&6)&&&(m'&&&6))==m&&&6)/\tg m m'=((!bit m 0||bit m' 0)&&!(rG m m'==2))/\(tg m m'&&tg m' m)=(bit m 0==bit m' 0&&rG m m'==0)/\decide (m=m')=(bit m 0==bit m' 0&&rG m m'==0):=by have:=bf.mp (bf.mp P6 m (wj.mpr h)) m' (wj.mpr h');simp only[bx,dK,fg]at this⊢;exact⟨this.1,this.2.1,this.2.2.1,this.2.2.2.1,this.2.2.2.2.1,this.2.2.2.2.2⟩
section
variable{g1 g2:Bool}{o1 o2 m1 m2:Nat}{e1 e2:Bool}{L1 L2:aU->Bool}
theorem V5{a e:aU}(h1:o1<3)(h2:o2<3)(hm1:m1<8)(hm2:m2<8)(ka:a.1∈Sp)(ke:e.1∈Sp):
  eqQ (mk g1 o1 m1 e1) (mk g2 o2 m2 e2) L1 L2 a e=(eqQ (mk g1 o1 (bit m1 0).toNat e1) (mk g2 o2 (bit m2 0).toNat e2) L1 L2 a e&&rG m1 m2==0)/\
  H6 (mk g1 o1 m1 e1) (mk g2 o2 m2 e2) L1 L2 a e=(H6 (mk g1 o1 (bit m1 0).toNat e1) (mk g2 o2 (bit m2 0).toNat e2) L1 L2 a e&&!(rG m1 m2==2)):=by
 have p:=LN (g:=g1) (e:=e1) h1 hm1 ka;have q:=LN (g:=g2) (e:=e2) h2 hm2 ke;have r1:=LO (L1 a) (L2 e) p.1;have r2:=LO true (L2 e) q.1;have w:=P5 r1.1 r2.2.1;have hh:=AE hm1 hm2;unfold eqQ H6;rw[w.1,w.2,r1.2.2.1,r2.2.2.2.1,r1.2.2.2.2.1,r2.2.2.2.2.2,p.2.1,q.2.1,p.2.2,q.2.2,hh.2.1,hh.2.2.1];exact⟨rfl,rfl⟩
end
def JE(s:jW):Bool:=Sp.contains s.2.1&&match s.1 with
 |none=>true
 |some a=>Sp.contains a.1
theorem DM:(R7.all λa=>R7.all λb=>(dP a b).all JE)=true:=by decide+kernel
theorem cH{S:List jW}{f g:jW->Bool}(h:∀s∈S,f s=g s):S.any f=S.any g:=by rw[jd,uA,uA];exact exists_congr λx=>and_congr_right λhx=>by rw[h x hx]
def FA(t t':az)(c:Int):Bool:=(cP (jy t) (jy t') (bY t.key t'.key)).contains c
def P7(t t':az):Bool:=Ju t.key t'.key&&!(t.mem&&(t'.mem&&!((t.key==1)==(t'.key==1))))
def Ys(t t':az):Bool:=Yr (t.key==t'.key) (decide (t'.key<2)) (cD t t'&&cD t' t) t.opt t'.opt t'.ro
def nM4(t t':az):Bool:=Yq (t.key==t'.key) (decide (t.key<2)) (decide (t'.key<2)) t.ro t'.ro
def P8(t t':az):Bool:=Jv (t.key==t'.key) (decide (t'.key<2)) t'.opt
theorem Gp:(R3.all λa=>R3.all λb=>(!decide (i7 (b:Nat)<i7 (a:Nat)))==decide (rk a<=rk b))=true:=by decide+kernel
theorem V6{t t':az}(d:t.Dr)(d':t'.Dr):
  FA t t' 0=(dP t.key t'.key).any (s0 (H6 (mk (gO t) t.opt t.mask t.mem) (mk (gO t') t'.opt t'.mask t'.mem) (fy (gO t) t.opt) (fy (gO t') t'.opt)))/\
  FA t t' 3=(dP t.key t'.key).any (fZ (fy (gO t) t.opt) (fy (gO t') t'.opt) (fx (gO t') t'.ro) (eqQ (mk (gO t) t.opt t.mask t.mem) (mk (gO t') t'.opt t'.mask t'.mem) (fy (gO t) t.opt) (fy (gO t') t'.opt)))/\
  FA t t' 4=(dP t.key t'.key).any (jz (fx (gO t) t.ro) (fx (gO t') t'.ro))/\FA t t' 11=(dP t.key t'.key).any (Sl (fy (gO t) t.opt) (fy (gO t') t'.opt)):=by
 have A:=vj t d.ok.key;have B:=vj t' d'.ok.key;have so:=jA (a:=t.key) (b:=t'.key) (.inl ⟨by have:=d.ok.key;omega,d'.ok.key⟩);have hE:∀t:az,y1 t=λe=>(mk (gO t) t.opt t.mask t.mem e,fy (gO t) t.opt e,fx (gO t) t.ro e):=λt=>funext λe=>AB t e;unfold FA;refine⟨?_,?_,?_,?_⟩<;>rw[jX so A B,hE t,hE t']
 ·exact cH λs _=>c0 s
 ·exact cH λs _=>c3 s
 ·exact cH λs _=>c4 s
 ·exact cH λs _=>c11 s
theorem pB1:∀a b q m m' o:Bool,(((!a||b)&&!q)&&(!m||(m'&&o)))=(((!a||b)&&(!m||(m'&&o)))&&!q):=∅
theorem pB2:∀s s' m m' o:Bool,((s&&(!m||(m'&&o)))&&(s'&&(!m'||(m&&o))))=((s&&s')&&((!m||(m'&&o))&&(!m'||(m&&o)))):=∅
theorem pB3:∀p z m m' o:Bool,((p&&z)&&((!m||(m'&&o))&&(!m'||(m&&o))))=((p&&(m==m'&&(!m||o)))&&z):=∅
theorem pB4:∀p q m k r:Bool,((p&&q)&&(m&&(k&&r)))=((p&&(m&&k))&&(q&&r)):=∅
theorem JF{t t':az}(h:t.mask<8)(h':t'.mask<8):
  cD t t'=(((!bit t.mask 0||bit t'.mask 0)&&(!t.mem||(t'.mem&&decide (bN t.key=bN t'.key))))&&!(rG t.mask t'.mask==2))/\
  (cD t t'&&cD t' t)=((bit t.mask 0==bit t'.mask 0&&(t.mem==t'.mem&&(!t.mem||decide (bN t.key=bN t'.key))))&&rG t.mask t'.mask==0):=by
 have hh:=AE h h';have e:decide (bN t'.key=bN t.key)=decide (bN t.key=bN t'.key):=decide_eq_decide.mpr eq_comm;constructor
 ·unfold cD;rw[hh.2.2.2.1];exact pB1 _ _ _ _ _ _
 ·have:(cD t t'&&cD t' t)=((tg t.mask t'.mask&&tg t'.mask t.mask)&&((!t.mem||(t'.mem&&decide (bN t.key=bN t'.key)))&&(!t'.mem||(t.mem&&decide (bN t.key=bN t'.key))))):=by unfold cD;rw[e];exact pB2 _ _ _ _ _
  rw[this,hh.2.2.2.2.1];exact pB3 _ _ _ _ _
theorem JG{t t':az}(h:t.mask<8)(h':t'.mask<8):decide (t=t')=((bit t.mask 0==bit t'.mask 0&&(t.mem==t'.mem&&(t.key==t'.key)))&&(rG t.mask t'.mask==0&&(t.opt==t'.opt&&t.ro==t'.ro))):=by
 have hm:=(AE h h').2.2.2.2.2;have:decide (t=t')=(decide (t.mask=t'.mask)&&(t.mem==t'.mem&&(t.key==t'.key&&(t.opt==t'.opt&&t.ro==t'.ro)))):=by
  rw[jd];simp only[dK,bx,fg];constructor
  ·intro e;subst e;simp
  ·rintro⟨a,b,c,d,e⟩;cases t;cases t';simp only at a b c d e;subst a;subst b;subst c;subst d;subst e;rfl
 rw[this,hm];exact pB4 _ _ _ _ _
theorem lawA{t t':az}(d:t.Dr)(d':t'.Dr):
  Gl (rB t t') (decide (t=t')) (P7 t t') (Gk t.key t'.key t.opt t'.opt) (decide (t.key<2)&&decide (t'.key<2)) (Ys t t') (nM4 t t') (P8 t t') (FA t t' 0) (FA t t' 3) (FA t t' 4) (FA t t' 11)=true:=by
 have hh:=AE d.ok.mask d'.ok.mask;have h:=Gm (Jw d.ok.key d'.ok.key) (hi:=rG t.mask t'.mask) (bit t.mask 0) t.mem (bit t'.mask 0) t'.mem d.ok.opt d.ok.ro d'.ok.opt d'.ok.ro hh.1 (λh=>by have:=d.fr;omega) (λh=>by have:=d'.fr;omega) d.he d'.he;have kk:∀s∈dP t.key t'.key,JE s=true:=bf.mp (bf.mp (bf.mp DM t.key (iF d.ok.key)) t'.key (iF d'.ok.key));obtain⟨iy,f3,f4,lR⟩:=V6 d d';have qs:∀s∈dP t.key t'.key,∀a,s.1=some a->_:=λs hs a ha=>V5 (g1:=gO t) (g2:=gO t') (e1:=t.mem) (e2:=t'.mem) (L1:=fy (gO t) t.opt) (L2:=fy (gO t') t'.opt) (a:=a) (e:=s.2) d.ok.opt d'.ok.opt d.ok.mask d'.ok.mask
  (by have:=kk s hs;unfold JE at this;rw[ha]at this;simp only[bx,jH]at this;exact this.2) (by have:=kk s hs;unfold JE at this;simp only[bx,jH]at this;exact this.1)
 have g0:FA t t' 0=if rG t.mask t'.mask==2 then(dP t.key t'.key).any λs=>s.1.isSome else(dP t.key t'.key).any (s0 (H6 (mk (gO t) t.opt (bit t.mask 0).toNat t.mem) (mk (gO t') t'.opt (bit t'.mask 0).toNat t'.mem) (fy (gO t) t.opt) (fy (gO t') t'.opt))):=by
  rw[iy];cases q:(rG t.mask t'.mask==2)with
  |true=>
   rw[if_pos rfl];refine cH λs hs=>?_;unfold s0;cases ha:s.1 with
   |none=>rfl
   |some a=>show(!_)=true;rw[(qs s hs a ha).2,q];simp
  |false=>
   rw[if_neg ∅];refine cH λs hs=>?_;unfold s0;cases ha:s.1 with
   |none=>rfl
   |some a=>show(!_)=!_;rw[(qs s hs a ha).2,q];simp
 have g3:FA t t' 3=if rG t.mask t'.mask==0 then(dP t.key t'.key).any (fZ (fy (gO t) t.opt) (fy (gO t') t'.opt) (fx (gO t') t'.ro) (eqQ (mk (gO t) t.opt (bit t.mask 0).toNat t.mem) (mk (gO t') t'.opt (bit t'.mask 0).toNat t'.mem) (fy (gO t) t.opt) (fy (gO t') t'.opt)))else(dP t.key t'.key).any (fZ (fy (gO t) t.opt) (fy (gO t') t'.opt) (fx (gO t') t'.ro) λ_ _=>false):=by
  rw[f3];cases q:(rG t.mask t'.mask==0)with
  |true=>
   rw[if_pos rfl];refine cH λs hs=>?_;unfold fZ;cases ha:s.1 with
   |none=>rfl
   |some a=>show(_&&(_&&!_))=(_&&(_&&!_));rw[(qs s hs a ha).1,q,wk]
  |false=>
   rw[if_neg ∅];refine cH λs hs=>?_;unfold fZ;cases ha:s.1 with
   |none=>rfl
   |some a=>show(_&&(_&&!_))=(_&&(_&&!_));rw[(qs s hs a ha).1,q,Bool.and_false]
 have hr:(!decide (i7 t'.opt<i7 t.opt))=decide (rk t.opt<=rk t'.opt):=cj (bf.mp (bf.mp Gp t.opt (xj d.ok.opt)) t'.opt (xj d'.ok.opt));have pe:=JF d.ok.mask d'.ok.mask;have hv:rB t t'=(decide (rk t.opt<=rk t'.opt)&&(Sj t.key t'.key&&(((!bit t.mask 0||bit t'.mask 0)&&(!t.mem||(t'.mem&&decide (bN t.key=bN t'.key))))&&!(rG t.mask t'.mask==2)))):=by unfold rB;rw[hr,pe.1,Bool.and_assoc]
 rw[hv,JG d.ok.mask d'.ok.mask,g0,g3,f4,lR];unfold Ys;rw[pe.2];exact h
def FB(i:Nat)(t:az)(c:Int):Bool:=(cP (DK (7+i)) (jy t) (bY (7+i) t.key)).contains c
def FC(t:az)(i:Nat)(c:Int):Bool:=(cP (jy t) (DK (7+i)) (bY t.key (7+i))).contains c
theorem hE(t:az):y1 t=λe=>(mk (gO t) t.opt t.mask t.mem e,fy (gO t) t.opt e,fx (gO t) t.ro e):=funext λe=>AB t e
theorem hI:(id:aU->aU)=λe=>(oM e,oL e,oX e):=rfl
theorem lawB{i:Nat}{t:az}(hi:i<2)(d:t.Dr):Jx i t (Sn (eg i t) t.opt t.ro) (Sm (eg i t) (t.key==i) t.ro) (So (eg i t) (t.key==i) t.opt) (FB i t 0) (FB i t 3) (FB i t 4) (FB i t 11)=true:=by have h:=JA hi d;have A:=Gn hi;have B:=vj t d.ok.key;have so:=jA (a:=7+i) (b:=t.key) (.inl ⟨by omega,d.ok.key⟩);unfold fB at h;unfold FB;rw[jX so A B,jX so A B,jX so A B,jX so A B,hE t,hI];rw[cH λs _=>c0 s,cH λs _=>c3 s,cH λs _=>c4 s,cH λs _=>c11 s];exact h
theorem lawC{i:Nat}{t:az}(hi:i<2)(d:t.Dr):Jy t i (FC t i 0) (FC t i 3) (FC t i 4) (FC t i 11)=true:=by have h:=JB hi d;have A:=vj t d.ok.key;have B:=Gn hi;have so:=jA (a:=t.key) (b:=7+i) (.inr ⟨d.ok.key,()⟩);unfold fC at h;unfold FC;rw[jX so A B,jX so A B,jX so A B,jX so A B,hE t,hI];rw[cH λs _=>c0 s,cH λs _=>c3 s,cH λs _=>c4 s,cH λs _=>c11 s];exact h
theorem LP(a b:Nat):Int.fdiv (a:Int) (b:Int)=((a/b:Nat):Int):=by rw[Int.fdiv_eq_ediv_of_nonneg _ (sT b)];rfl
theorem LQ(a b:Nat):Int.fmod (a:Int) (b:Int)=((a%b:Nat):Int):=by rw[Int.fmod_eq_emod_of_nonneg _ (sT b)];rfl
def kK(nums:List Nat)(i:Nat):Nat:=nums[i%nums.length]?.getD 0+31*(i/nums.length)
def pK(k o r m:Nat)(e:Bool):az:=⟨k,if k<2\/o<2 then o else 0,r,if 0<m\/(e&&decide (k<4))=true then m else 1,e&&decide (k<4)⟩
def rH(x:Nat):az:=pK (x%7) (x/7%3) (x/7/3%3) (x/7/18%8) (x/7/9%2==1)
theorem vm{k o r m:Nat}{e:Bool}(hk:k<7)(ho:o<3)(hr:r<3)(hm:m<8):(pK k o r m e).Dr:=by
 refine⟨⟨hk,?_,hr,?_,?_⟩,?_,?_⟩
 ·show(if _ then o else 0)<3;split
  ·exact ho
  ·decide
 ·show(if _ then m else 1)<8;split
  ·exact hm
  ·decide
 ·show 0<(if _ then m else 1)\/(e&&decide (k<4))=true;by_cases h:0<m\/(e&&decide (k<4))=true
  ·rw[if_pos h];exact h
  ·rw[if_neg h];exact .inl ∅
 ·show k<2\/(if k<2\/o<2 then o else 0)<2;by_cases h:k<2\/o<2
  ·rw[if_pos h];exact h
  ·rw[if_neg h];exact .inr ∅
 ·intro h;have h:(e&&decide (k<4))=true:=h;rw[bx,dK]at h;exact h.2
theorem AF(x:Nat):(rH x).Dr:=vm (Nat.mod_lt _ ∅) (Nat.mod_lt _ ∅) (Nat.mod_lt _ ∅) (Nat.mod_lt _ ∅)
theorem tW{a b:Int}{σ:PS}(ha:small a=true)(hb:small b=true):binop .mul (.d (.int a)) (.d (.int b)) σ=some (.d (.int (a*b)),σ):=by show ai (cI σ) (dy _ (small a&&small b))=_;rw[ha,hb];rfl
section
variable{pm:List MO}{n:Nat}
theorem qH{k:Nat}(h:k<1000000):small (k:Int)=true:=qQ (aW h ∅)
theorem o3{a c:Nat}{σ:PS}(h:0<c):binop .mod (.d (.int a)) (.d (.int c)) σ=some (.d (.int (a%c:Nat)),σ):=by show ai (cI σ) (dy _ _)=_;rw[show decide (0<(c:Int))=true from ed (pX.mpr h),<-LQ];rfl
theorem o4{a c:Nat}{σ:PS}(h:0<c)(h':c<1073741824):binop .fdiv (.d (.int a)) (.d (.int c)) σ=some (.d (.int (a/c:Nat)),σ):=by show ai (cI σ) (dy _ (decide (0<(c:Int))&&decide ((c:Int)<1073741824)))=_;rw[show(decide (0<(c:Int))&&decide ((c:Int)<1073741824))=true from jJ.mpr ⟨ed (pX.mpr h),ed (pX.mpr h')⟩,<-LP];rfl
theorem f75{nums:List Nat}{i:Nat}(hn:0<nums.length)(h9:nums.length<=9)(hi:i<=100):rn (n+1) 75 [.aI 0,.d (.int i)] pm [.list (nums.map λ(x:Nat)=> .int x)]=some (.d (.int (kK nums i)),pm,[.list (nums.map λ(x:Nat)=> .int x)]):=by
 have hm:=LQ i nums.length;have hd:=LP i nums.length;have lt:i%nums.length<nums.length:=Nat.mod_lt _ hn;have ld:i/nums.length<=i:=Nat.div_le_self _ _;have s1:=qH (k:=i%nums.length) ();have s2:=qH (k:=i/nums.length) ();have fZ:small 31=true:=∅;have at_:(nums.map λ(x:Nat)=>D.int x)[i%nums.length]?=some (.int (nums[i%nums.length]?.getD 0:Nat)):=by rw[pR,mN lt];rfl
 have hf:nums.length<=1000000:=();have hL:(nums.map λ(x:Nat)=>D.int x).length=nums.length:=eT _;have hp:0<(nums.length:Int):=();have hl:(nums.length:Int)<1073741824:=();generalize (nums.map λ(x:Nat)=>D.int x)=L at*
 have el:∀σ:PS,σ=⟨pm,[.list L]⟩->eval (aH n) (.bi .len 'a') [some (.aI 0),some (.d (.int i))] σ=some (.d (.int nums.length),σ):=λσ e=>by
  rw[e];rw[<-hL]
  dsimp! [↑cT (l:=L) (by rw[hL];exact hf)]
 have e1:eval (aH n) (.sub 'a' (.bin .mod 'b' (.bi .len 'a'))) [some (.aI 0),some (.d (.int i))] ⟨pm,[.list L]⟩=some (.d (.int (nums[i%nums.length]?.getD 0:Nat)),⟨pm,[.list L]⟩):=by refine cY (ak rfl) (dC (ak rfl) (el _ rfl) (o3 hn)) ?_;show dy (ai s8 L[i%nums.length]?) _=_;rw[s1,at_,ed (sT _)];rfl
 have e2:eval (aH n) (.bin .mul 31.0 (.bin .fdiv 'b' (.bi .len 'a'))) [some (.aI 0),some (.d (.int i))] ⟨pm,[.list L]⟩=some (.d (.int (31*(i/nums.length:Nat))),⟨pm,[.list L]⟩):=by
  refine dC aG (dC (y:= .d (.int nums.length)) (ak rfl) (el _ rfl) (r:=(.d (.int (i/nums.length:Nat)),⟨pm,[.list L]⟩)) ?_) ?_
  ·exact o4 hn ()
  ·exact tW fZ s2
 have e3:binop .add (.d (.int (nums[i%nums.length]?.getD 0:Nat))) (.d (.int (31*(i/nums.length:Nat)))) ⟨pm,[.list L]⟩=some (.d (.int (kK nums i:Nat)),⟨pm,[.list L]⟩):=by unfold kK;rw[Y5,Int.natCast_mul];rfl
 rw[cG [some (.aI 0),some (.d (.int i))] (show p8 75=some ⟨2,2,Om⟩from rfl) rfl rfl];unfold Om;dsimp only;rw[bS (fz (dC e1 e2 e3))];rfl
theorem f76{k o r m:Nat}{e:Bool}:rn (n+1) 76 [.d (.int k),.d (.int o),.d (.int r),.d (.int m),.d (.bool e)] pm []=some (.d (pK k o r m e).d,pm,[]):=by
 unfold pK az.d;have a4:((k:Int)<4)<->k<4:=();have a2:((k:Int)<2)<->k<2:=();have eN:((o:Int)<2)<->o<2:=();have c0:((0:Int)<m)<->0<m:=();have s1:exec (aH n) (.asg 5 (.and #['e',.cmp .lt 'a' 4.0])) [some (.d (.int k)),some (.d (.int o)),some (.d (.int r)),some (.d (.int m)),some (.d (.bool e)),none,none] ⟨pm,[]⟩=
   some (.next,[some (.d (.int k)),some (.d (.int o)),some (.d (.int r)),some (.d (.int m)),some (.d (.bool e)),some (.d (.bool (e&&decide (k<4)))),none],⟨pm,[]⟩):=by
  rw[<-decide_eq_decide.mpr a4];cases e<;>dsimp! [rfl]
 generalize hq:(e&&decide (k<4))=q at*
 have s2:exec (aH n) (.asg 6 (.ite (.or #[.cmp .lt 'a' 2.0,.cmp .lt 'b' 2.0]) 'b' 0.0)) [some (.d (.int k)),some (.d (.int o)),some (.d (.int r)),some (.d (.int m)),some (.d (.bool e)),some (.d (.bool q)),none] ⟨pm,[]⟩=
   some (.next,[some (.d (.int k)),some (.d (.int o)),some (.d (.int r)),some (.d (.int m)),some (.d (.bool e)),some (.d (.bool q)),some (.d (.int ((if k<2\/o<2 then o else 0:Nat))))],⟨pm,[]⟩):=by
  by_cases h2:k<2
  ·rw[if_pos (.inl h2)]
   dsimp! [ed (a2.mpr h2)]
  by_cases ho:o<2
  ·rw[if_pos (.inr ho)]
   dsimp! [dU (mt a2.mp h2),ed (eN.mpr ho)]
  ·rw[if_neg λz=>z.elim h2 ho]
   dsimp! [dU (mt a2.mp h2),dU (mt eN.mp ho)]
 generalize (if k<2\/o<2 then o else 0)=o' at*
 have fZ:exec (aH n) (.ret (.tup #['a','g','c',.ite (.or #[.cmp .gt 'd' 0.0,'f']) 'd' 1.0,'f'])) [some (.d (.int k)),some (.d (.int o)),some (.d (.int r)),some (.d (.int m)),some (.d (.bool e)),some (.d (.bool q)),some (.d (.int o'))] ⟨pm,[]⟩=
   some (.ret (.d (.tup [.int k,.int o',.int r,.int ((if 0<m\/q=true then m else 1:Nat)),.bool q])),[some (.d (.int k)),some (.d (.int o)),some (.d (.int r)),some (.d (.int m)),some (.d (.bool e)),some (.d (.bool q)),some (.d (.int o'))],⟨pm,[]⟩):=by
  by_cases h0:0<m
  ·rw[if_pos (.inl h0)]
   dsimp! [ed (c0.mpr h0)]
  cases q
  ·rw[if_neg λz=>z.elim h0 (λz=>nomatch z)]
   dsimp! [dU (mt c0.mp h0)]
  ·rw[if_pos (.inr rfl)]
   dsimp! [dU (mt c0.mp h0)]
 rw[cG [some (.d (.int k)),some (.d (.int o)),some (.d (.int r)),some (.d (.int m)),some (.d (.bool e)),none,none] (show p8 76=some ⟨5,7,Oo⟩from rfl) rfl rfl];unfold Oo;dsimp only;rw[av s1,av s2,bS fZ];rfl
theorem beq1(k:Nat):((k:Int)==1)=(k==1):=nG k 1
theorem f77{x:Nat}:rn (n+2) 77 [.d (.int x)] pm []=some (.d (rH x).d,pm,[]):=by
 have md:∀(ls:Ls) (σ:PS) (e:E) (a c:Nat),0<c->eval (aH (n+1)) e ls σ=some (.d (.int a),σ)->eval (aH (n+1)) (.bin .mod e (.lit (.int c))) ls σ=some (.d (.int (a%c:Nat)),σ):=λls σ e a c hc h=>
  dC h aG (o3 hc)
 have dv:∀(ls:Ls) (σ:PS) (e:E) (a c:Nat),0<c->c<1000->eval (aH (n+1)) e ls σ=some (.d (.int a),σ)->eval (aH (n+1)) (.bin .fdiv e (.lit (.int c))) ls σ=some (.d (.int (a/c:Nat)),σ):=λls σ e a c hc hc' h=>
  dC h aG (o4 hc ())
 have s1:exec (aH (n+1)) (.asg 1 (.bin .fdiv 'a' 7.0)) [some (.d (.int x)),none] ⟨pm,[]⟩=some (.next,[some (.d (.int x)),some (.d (.int (x/7:Nat)))],⟨pm,[]⟩):=bC (dv _ _ _ _ 7 ∅ ∅ (ak rfl));rw[cG [some (.d (.int x)),none] (show p8 77=some ⟨1,2,Oq⟩from rfl) rfl rfl];unfold Oq;dsimp only;rw[av s1];have L0:∀σ,eval (aH (n+1)) 'a' [some (.d (.int x)),some (.d (.int (x/7:Nat)))] σ=some (.d (.int x),σ):=λσ=>ak rfl;have L1:∀σ,eval (aH (n+1)) 'b' [some (.d (.int x)),some (.d (.int (x/7:Nat)))] σ=some (.d (.int (x/7:Nat)),σ):=λσ=>ak rfl;have e5:∀σ,eval (aH (n+1)) (.cmp .eq (.bin .mod (.bin .fdiv 'b' 9.0) 2.0) 1.0) [some (.d (.int x)),some (.d (.int (x/7:Nat)))] σ=some (.d (.bool (x/7/9%2==1)),σ):=λσ=>by refine bW (md _ _ _ _ 2 ∅ (dv _ _ _ _ 9 ∅ ∅ (L1 σ))) aG ?_;rw[<-beq1];rfl
 have ec:eval (aH (n+1)) (.call 76 #[.bin .mod 'a' 7.0,.bin .mod 'b' 3.0,.bin .mod (.bin .fdiv 'b' 3.0) 3.0,.bin .mod (.bin .fdiv 'b' 18.0) 8.0,.cmp .eq (.bin .mod (.bin .fdiv 'b' 9.0) 2.0) 1.0]) [some (.d (.int x)),some (.d (.int (x/7:Nat)))] ⟨pm,[]⟩=some (.d (rH x).d,⟨pm,[]⟩):=
  b_ (au (md _ _ _ _ 7 ∅ (L0 _)) (au (md _ _ _ _ 3 ∅ (L1 _)) (au (md _ _ _ _ 3 ∅ (dv _ _ _ _ 3 ∅ ∅ (L1 _))) (au (md _ _ _ _ 8 ∅ (dv _ _ _ _ 18 ∅ ∅ (L1 _))) (au (e5 _) bp))))) (bX rfl (f76 (n:=n)))
 rw[bS (fz ec)];rfl
end
def EB(X:Cx)(ls:Ls)(σ:PS)(e:E)(b:Bool):Prop:=eval X e ls σ=some (.d (.bool b),σ)
def TB(X:Cx)(ls:Ls)(σ:PS)(e:E)(b:Bool):Prop:=test X e ls σ=some (b,σ)
section
variable{X:Cx}{ls:Ls}{σ:PS}{a b c:E}{x y z:Bool}
theorem EB.and(h1:EB X ls σ a x)(h2:EB X ls σ b y):EB X ls σ (.and #[a,b]) (x&&y):=by
 cases x with
 |true=>exact(aq h1).trans h2
 |false=>exact aq h1
theorem EB.JH(h1:EB X ls σ a x)(h2:EB X ls σ b y)(h3:EB X ls σ c z):EB X ls σ (.and #[a,b,c]) (x&&(y&&z)):=by
 cases x with
 |true=>exact(aq h1).trans (EB.and (x:=y) (y:=z) h2 h3)
 |false=>exact aq h1
theorem EB.or(h1:EB X ls σ a x)(h2:EB X ls σ b y):EB X ls σ (.or #[a,b]) (x||y):=by
 cases x with
 |true=>exact aq h1
 |false=>exact(aq h1).trans h2
theorem EB.nt(h:EB X ls σ a x):EB X ls σ (.nt a) (!x):=aq h
theorem EB.ite(h1:TB X ls σ c x)(h2:x=true->EB X ls σ a y)(h3:x=false->EB X ls σ b z):EB X ls σ (.ite c a b) (if x then y else z):=by
 cases x with
 |true=>exact(aq h1).trans (h2 rfl)
 |false=>exact(aq h1).trans (h3 rfl)
theorem TB.and(h1:TB X ls σ a x)(h2:x=true->TB X ls σ b y):TB X ls σ (.and #[a,b]) (x&&y):=by
 cases x with
 |true=>exact(aq h1).trans ((aq (h2 rfl)).trans (by cases y<;>rfl))
 |false=>exact aq h1
theorem TB.JH(h1:TB X ls σ a x)(h2:TB X ls σ b y)(h3:TB X ls σ c z):TB X ls σ (.and #[a,b,c]) (x&&(y&&z)):=by
 cases x with
 |true=>exact(aq h1).trans (TB.and (x:=y) (y:=z) h2 λ_=>h3)
 |false=>exact aq h1
theorem TB.or(h1:TB X ls σ a x)(h2:TB X ls σ b y):TB X ls σ (.or #[a,b]) (x||y):=by
 cases x with
 |true=>exact aq h1
 |false=>exact(aq h1).trans ((aq h2).trans (by cases y<;>rfl))
theorem TB.nt(h:TB X ls σ a x):TB X ls σ (.nt a) (!x):=aq h
theorem TB.ite(h1:TB X ls σ c x)(h2:x=true->TB X ls σ a y)(h3:x=false->TB X ls σ b z):TB X ls σ (.ite c a b) (if x then y else z):=by
 cases x with
 |true=>exact(aq h1).trans (h2 rfl)
 |false=>exact(aq h1).trans (h3 rfl)
theorem TB.cmp{o:sN}(h:EB X ls σ (.cmp o a b) x):TB X ls σ (.cmp o a b) x:=aq (f:=cX Of) h
theorem TB.loc{i:Nat}(h:ls[i]?= ~~~(.d (.bool x))):TB X ls σ (.loc i) x:=lQ h
theorem TB.call{f:Nat}{as:Es}(h:EB X ls σ (.call f as) x):TB X ls σ (.call f as) x:=aq (f:=cX Of) h
theorem EB.j_{k m:Nat}(h1:eval X a ls σ=some (.d (.int k),σ))(h2:eval X b ls σ=some (.d (.int m),σ)):EB X ls σ (.cmp .eq a b) (k==m):=
 bW h1 h2 (by rw[<-nG];rfl)
theorem EB.neN{k m:Nat}(h1:eval X a ls σ=some (.d (.int k),σ))(h2:eval X b ls σ=some (.d (.int m),σ)):EB X ls σ (.cmp .ne a b) (!(k==m)):=
 bW h1 h2 (by rw[<-nG];rfl)
theorem EB.EP{k m:Nat}(h1:eval X a ls σ=some (.d (.int k),σ))(h2:eval X b ls σ=some (.d (.int m),σ)):EB X ls σ (.cmp .gt a b) (decide (m<k)):=
 bW h1 h2 (by rw[show decide (m<k)=decide ((m:Int)<k)from decide_eq_decide.mpr ()];rfl)
theorem EB.ltN{k m:Nat}(h1:eval X a ls σ=some (.d (.int k),σ))(h2:eval X b ls σ=some (.d (.int m),σ)):EB X ls σ (.cmp .lt a b) (decide (k<m)):=
 bW h1 h2 (by rw[show decide (k<m)=decide ((k:Int)<m)from decide_eq_decide.mpr ()];rfl)
theorem EB.neB{p q:Bool}(h1:EB X ls σ a p)(h2:EB X ls σ b q):EB X ls σ (.cmp .ne a b) (!(p==q)):=bW h1 h2 (by cases p<;>cases q<;>rfl)
variable{i:Nat}{t:az}
theorem jY(h:ls[i]?= ~~~(.d t.d)):eval X (.sub (.loc i) 0.0) ls σ=some (.d (.int t.key),σ):=cY (ak h) aG rfl
theorem y7(h:ls[i]?= ~~~(.d t.d)):eval X (.sub (.loc i) 1.0) ls σ=some (.d (.int t.opt),σ):=cY (ak h) aG rfl
theorem V7(h:ls[i]?= ~~~(.d t.d)):eval X (.sub (.loc i) 2.0) ls σ=some (.d (.int t.ro),σ):=cY (ak h) aG rfl
theorem JI(h:ls[i]?= ~~~(.d t.d)):eval X (.sub (.loc i) 3.0) ls σ=some (.d (.int t.mask),σ):=cY (ak h) aG rfl
theorem JJ(h:ls[i]?= ~~~(.d t.d)):EB X ls σ (.sub (.loc i) 4.0) t.mem:=cY (ak h) aG rfl
theorem JK{j:Nat}(h:ls[i]?= ~~~(.d (.tup [.int j]))):eval X (.sub (.loc i) 0.0) ls σ=some (.d (.int j),σ):=cY (ak h) aG rfl
theorem mw(h:ls[i]?= ~~~(.d t.d)):eval X (.bi .len (.loc i)) ls σ=some (.d (.int (5:Nat)),σ):=by exact uV (ak h) rfl
theorem o5{j:Nat}(h:ls[i]?= ~~~(.d (.tup [.int j]))):eval X (.bi .len (.loc i)) ls σ=some (.d (.int (1:Nat)),σ):=by exact uV (ak h) rfl
theorem y8:eval X 0.0 ls σ=some (.d (.int (0:Nat)),σ):=aG
theorem d9:eval X 1.0 ls σ=some (.d (.int (1:Nat)),σ):=aG
theorem tj:eval X 2.0 ls σ=some (.d (.int (2:Nat)),σ):=aG
theorem JL:eval X 4.0 ls σ=some (.d (.int (4:Nat)),σ):=aG
end
def Gq:List D:=[.tup [.int 1,.int 0],.tup [.int 0,.int 2],.tup [.int 0,.int 3],.tup [.int 2,.int 3],.tup [.int 5,.int 4],.tup [.int 5,.int 6]]
def oD(i:Nat):D:= .tup [.int i]
theorem JM:(R7.all λa=>decide (memD (.int (a:Nat)) [.int 0,.int 2,.int 3]=some (a==0||(a==2||a==3))/\memD (.int (a:Nat)) [.int 2,.int 3]=some (a==2||a==3))&&R7.all λb=>decide (memD (.tup [.int (a:Nat),.int (b:Nat)]) Gq=some ([(1,0),(0,2),(0,3),(2,3),(5,4),(5,6)].contains (a,b))))=true:=by decide+kernel
theorem vn{a b:Nat}(ha:a<7)(hb:b<7):memD (.int (a:Nat)) [.int 0,.int 2,.int 3]=some (a==0||(a==2||a==3))/\memD (.int (a:Nat)) [.int 2,.int 3]=some (a==2||a==3)/\memD (.tup [.int (a:Nat),.int (b:Nat)]) Gq=some ([(1,0),(0,2),(0,3),(2,3),(5,4),(5,6)].contains (a,b)):=by have:=bf.mp JM a (iF ha);rw[bx,dK]at this;exact⟨this.1.1,this.1.2,of_decide_eq_true (bf.mp this.2 b (iF hb))⟩
theorem EB.isin{X:Cx}{ls:Ls}{σ:PS}{a b:E}{k:D}{l:List D}{r:Bool}(h1:eval X a ls σ=some (.d k,σ))(h2:eval X b ls σ=some (.d (.tup l),σ))(h3:memD k l=some r):EB X ls σ (.cmp .isin a b) r:=bW h1 h2 h3
theorem EB.inL{X:Cx}{ls:Ls}{σ:PS}{a b:E}{k:D}{l:List D}{r:Bool}(h1:eval X a ls σ=some (.d k,σ))(h2:eval X b ls σ=some (.d (.lst l),σ))(h3:memD k l=some r):EB X ls σ (.cmp .isin a b) r:=bW h1 h2 h3
theorem EB.xm{X:Cx}{ls:Ls}{σ:PS}{a b:E}{k:D}{l:List D}{r:Bool}(h1:eval X a ls σ=some (.d k,σ))(h2:eval X b ls σ=some (.d (.lst l),σ))(h3:memD k l=some r):EB X ls σ (.cmp .eX a b) (!r):=by exact bW h1 h2 (aq (f:=Dl) h3)
section
variable{pm:List MO}{n:Nat}{t t':az}{i:Nat}
theorem f74:rn (n+1) 74 [] pm []=some (.d (.lst Gq),pm,[]):=by dsimp! [rfl]
theorem DN{X:Cx}{ls:Ls}{σ:PS}{a b:E}{x y:D}(h1:eval X a ls σ=some (.d x,σ))(h2:eval X b ls σ=some (.d y,σ)):eval X (.tup #[a,b]) ls σ=some (.d (.tup [x,y]),σ):=q9 (au h1 (au h2 bp)) rfl rfl
theorem f84A(hk:t.key<7)(hk':t'.key<7):rn (n+2) 84 [.d t.d,.d t'.d] pm []=some (.d (.bool (P7 t t')),pm,[]):=by
 let ls:Ls:=[some (.d t.d),some (.d t'.d),none];have g0:ls[0]?= ~~~(.d t.d):=rfl;have g1:ls[1]?= ~~~(.d t'.d):=rfl;have c1:=TB.cmp (EB.j_ (X:=aH (n+1)) (σ:=⟨pm,[]⟩) (mw g0) d9);have c2:=TB.cmp (EB.j_ (X:=aH (n+1)) (σ:=⟨pm,[]⟩) (mw g1) d9);have c3:=TB.and (TB.cmp (EB.neN (X:=aH (n+1)) (σ:=⟨pm,[]⟩) (jY g0) (jY g1))) λ_=>TB.cmp (EB.xm (X:=aH (n+1)) (σ:=⟨pm,[]⟩) (DN (jY g0) (jY g1)) (b_ bp (bX (sp:=(aH (n+1)).fn 74) rfl (f74 (n:=n)))) (vn hk hk').2.2);have c4:=EB.nt (EB.JH (JJ (X:=aH (n+1)) (σ:=⟨pm,[]⟩) g0) (JJ g1) (EB.neB (EB.j_ (jY g0) d9) (EB.j_ (jY g1) d9)));rw[cG ls (show p8 84=some ⟨2,3,yO⟩from rfl) rfl rfl];unfold yO;dsimp only;rw[av (aS c1 aP),av (aS c2 aP)];unfold P7 Ju;cases q:(t.key==t'.key)<;>cases q2:([(1,0),(0,2),(0,3),(2,3),(5,4),(5,6)].contains (t.key,t'.key))<;>rw[q,q2]at c3
 ·rw[bS (bI c3 (bS (fz aG)))];rfl
 all_goals rw[av (aS c3 aP),bS (fz c4)];rfl
theorem f84B(hk:t.key<7)(hi:i<2):rn (n+2) 84 [.d (oD i),.d t.d] pm []=some (.d (.bool (PX i t)),pm,[]):=by
 let ls:Ls:=[some (.d (oD i)),some (.d t.d),none];have g0:ls[0]?= ~~~(.d (oD i)):=rfl;have g1:ls[1]?= ~~~(.d t.d):=rfl;have c1:=TB.cmp (EB.j_ (X:=aH (n+1)) (σ:=⟨pm,[]⟩) (o5 g0) d9);have c2:=EB.ite (TB.cmp (EB.j_ (X:=aH (n+1)) (σ:=⟨pm,[]⟩) (JK g0) y8)) (λ_=>EB.isin (b:= .tup #[0.0,2.0,3.0]) (jY g1) (q9 (au aG (au aG (au aG bp))) rfl rfl) (vn hk hk).1) (λ_=>EB.j_ (jY g1) d9);rw[cG ls (show p8 84=some ⟨2,3,yO⟩from rfl) rfl rfl];unfold yO;dsimp only;let b:Bool:=if i==0 then t.key==0||(t.key==2||t.key==3)else t.key==1
 let bo:Ls:=[some (.d (oD i)),some (.d t.d),some (.d (.bool b))];have g1':bo[1]?= ~~~(.d t.d):=rfl;have c3:=EB.and (show EB (aH (n+1)) bo ⟨pm,[]⟩ 'c' b from ak rfl) (EB.nt (EB.and (EB.j_ (y7 g1') d9) (EB.EP (JI g1') y8)));have c5:execs (aH (n+1)) #[.asg 2 (.ite (.cmp .eq (.sub 'a' 0.0) 0.0) (.cmp .isin (.sub 'b' 0.0) (.tup #[0.0,2.0,3.0])) (.cmp .eq (.sub 'b' 0.0) 1.0)),.ret (.and #['c',.nt (.and #[.cmp .eq (.sub 'b' 1.0) 1.0,.cmp .gt (.sub 'b' 3.0) 0.0])])] ls ⟨pm,[]⟩=some (.ret (.d (.bool (PX i t))),bo,⟨pm,[]⟩):=by rw[av (bC c2)];exact bS (fz c3)
 rw[bS (bI c1 c5)];rfl
theorem f84C(hi:i<2):rn (n+2) 84 [.d t.d,.d (oD i)] pm []=some (.d (.bool (t.key==i)),pm,[]):=by let ls:Ls:=[some (.d t.d),some (.d (oD i)),none];have g0:ls[0]?= ~~~(.d t.d):=rfl;have g1:ls[1]?= ~~~(.d (oD i)):=rfl;have c1:=TB.cmp (EB.j_ (X:=aH (n+1)) (σ:=⟨pm,[]⟩) (mw g0) d9);have c2:=TB.cmp (EB.j_ (X:=aH (n+1)) (σ:=⟨pm,[]⟩) (o5 g1) d9);have c3:=EB.j_ (X:=aH (n+1)) (σ:=⟨pm,[]⟩) (jY g0) (JK g1);rw[cG ls (show p8 84=some ⟨2,3,yO⟩from rfl) rfl rfl];unfold yO;dsimp only;rw[av (aS c1 aP),bS (bI c2 (bS (fz c3)))];rfl
theorem f85A(hk:t'.key<7):rn (n+2) 85 [.d t.d,.d t'.d] pm []=some (.d (.bool (Gk t.key t'.key t.opt t'.opt)),pm,[]):=by
 let ls:Ls:=[some (.d t.d),some (.d t'.d)];have g0:ls[0]?= ~~~(.d t.d):=rfl;have g1:ls[1]?= ~~~(.d t'.d):=rfl;have c1:=TB.cmp (EB.j_ (X:=aH (n+1)) (σ:=⟨pm,[]⟩) (mw g1) d9);have c2:=TB.cmp (EB.isin (X:=aH (n+1)) (σ:=⟨pm,[]⟩) (b:= .tup #[2.0,3.0]) (jY g1) (DN aG aG) (vn hk hk).2.1);have c3:=EB.and (EB.j_ (X:=aH (n+1)) (σ:=⟨pm,[]⟩) (y7 g1) y8) (EB.or (EB.j_ (mw g0) d9) (EB.neN (y7 g0) d9));have c4:EB (aH (n+1)) ls ⟨pm,[]⟩ (.and #[.cmp .gt (.bi .len 'a') 1.0,.cmp .eq (.sub 'a' 0.0) 1.0,.cmp .eq (.sub 'b' 0.0) 0.0,.cmp .eq (.sub 'a' 1.0) 2.0]) (t.key==1&&(t'.key==0&&t.opt==2)):=by have d1:=EB.EP (X:=aH (n+1)) (σ:=⟨pm,[]⟩) (mw g0) d9;have d2:=EB.j_ (X:=aH (n+1)) (σ:=⟨pm,[]⟩) (jY g0) d9;have d3:=EB.j_ (X:=aH (n+1)) (σ:=⟨pm,[]⟩) (jY g1) y8;have d4:=EB.j_ (X:=aH (n+1)) (σ:=⟨pm,[]⟩) (y7 g0) tj;have d:=EB.JH d2 d3 d4;unfold EB at d d1⊢;have d1:eval (aH (n+1)) (.cmp .gt (.bi .len 'a') 1.0) ls ⟨pm,[]⟩=some (.d (.bool true),⟨pm,[]⟩):=d1;exact Fo d1 rfl d
 rw[cG ls (show p8 85=some ⟨2,2,yP⟩from rfl) rfl rfl];unfold yP;dsimp only;rw[av (aS c1 aP)];unfold Gk;cases q:(t'.key==2||t'.key==3)with
 |true=>
  rw[q]at c2;rw[bS (bI c2 (bS (fz c3)))];rfl
 |false=>
  rw[q]at c2;rw[av (aS c2 aP),bS (fz c4)];rfl
theorem f85B(hk:t.key<7):rn (n+2) 85 [.d (oD i),.d t.d] pm []=some (.d (.bool (PY t)),pm,[]):=by
 let ls:Ls:=[some (.d (oD i)),some (.d t.d)];have g0:ls[0]?= ~~~(.d (oD i)):=rfl;have g1:ls[1]?= ~~~(.d t.d):=rfl;have c1:=TB.cmp (EB.j_ (X:=aH (n+1)) (σ:=⟨pm,[]⟩) (mw g1) d9);have c2:=TB.cmp (EB.isin (X:=aH (n+1)) (σ:=⟨pm,[]⟩) (b:= .tup #[2.0,3.0]) (jY g1) (DN aG aG) (vn hk hk).2.1);have c3:EB (aH (n+1)) ls ⟨pm,[]⟩ (.and #[.cmp .eq (.sub 'b' 1.0) 0.0,.or #[.cmp .eq (.bi .len 'a') 1.0,.cmp .ne (.sub 'a' 1.0) 1.0]]) (t.opt==0):=by
  have d1:=EB.j_ (X:=aH (n+1)) (σ:=⟨pm,[]⟩) (y7 g1) y8;have d2:EB (aH (n+1)) ls ⟨pm,[]⟩ (.or #[.cmp .eq (.bi .len 'a') 1.0,.cmp .ne (.sub 'a' 1.0) 1.0]) true:=by have e:=EB.j_ (X:=aH (n+1)) (σ:=⟨pm,[]⟩) (o5 g0) d9;unfold EB at e⊢;have e:eval (aH (n+1)) (.cmp .eq (.bi .len 'a') 1.0) ls ⟨pm,[]⟩=some (.d (.bool true),⟨pm,[]⟩):=e;exact aq e
  have:=EB.and d1 d2;rw[wk]at this;exact this
 have c4:EB (aH (n+1)) ls ⟨pm,[]⟩ (.and #[.cmp .gt (.bi .len 'a') 1.0,.cmp .eq (.sub 'a' 0.0) 1.0,.cmp .eq (.sub 'b' 0.0) 0.0,.cmp .eq (.sub 'a' 1.0) 2.0]) false:=by have d1:=EB.EP (X:=aH (n+1)) (σ:=⟨pm,[]⟩) (o5 g0) d9;unfold EB at d1⊢;have d1:eval (aH (n+1)) (.cmp .gt (.bi .len 'a') 1.0) ls ⟨pm,[]⟩=some (.d (.bool false),⟨pm,[]⟩):=d1;exact aq d1
 rw[cG ls (show p8 85=some ⟨2,2,yP⟩from rfl) rfl rfl];unfold yP;dsimp only;rw[av (aS c1 aP)];unfold PY;cases q:(t.key==2||t.key==3)with
 |true=>
  rw[q]at c2;rw[bS (bI c2 (bS (fz c3)))];rfl
 |false=>
  rw[q]at c2;rw[av (aS c2 aP),bS (fz c4)];rfl
theorem f85C:rn (n+2) 85 [.d t.d,.d (oD i)] pm []=some (.d (.bool false),pm,[]):=by let ls:Ls:=[some (.d t.d),some (.d (oD i))];have g1:ls[1]?= ~~~(.d (oD i)):=rfl;have c1:=TB.cmp (EB.j_ (X:=aH (n+1)) (σ:=⟨pm,[]⟩) (o5 g1) d9);rw[cG ls (show p8 85=some ⟨2,2,yP⟩from rfl) rfl rfl];unfold yP;dsimp only;rw[bS (bI c1 (bS (fz aG)))];rfl
theorem nH{k:Int}{l:List Int}:memD (.int k) (l.map .int)=some (l.contains k):=by
 unfold memD;have e:((l.map D.int).any λy=>bc y (.int k))=l.contains k:=by
  induction l with
  |nil=>rfl
  |cons x r ih=>
   rw[kg,List.any_cons,ih,List.contains_cons];congr 1;show(x==k)=(k==x);rw[jd,fg,fg];exact eq_comm
 rw[kF,nr,e];rfl
def rI(cs:List Int)(f:Int):Bool:=cs.contains f||(f==11&&cs.contains 5)
theorem f86{f:Int}{cs:List Int}:rn (n+1) 86 [.d (.int f),.d (.lst (cs.map .int))] pm []=some (.d (.bool (rI cs f)),pm,[]):=by let ls:Ls:=[some (.d (.int f)),some (.d (.lst (cs.map .int)))];have c1:=EB.inL (X:=aH n) (ls:=ls) (σ:=⟨pm,[]⟩) (a:= .loc 0) (b:= .loc 1) (ak rfl) (ak rfl) nH;have c2:=EB.inL (X:=aH n) (ls:=ls) (σ:=⟨pm,[]⟩) (a:= .lit (.int 5)) (b:= .loc 1) aG (ak rfl) nH;have c3:EB (aH n) ls ⟨pm,[]⟩ (.cmp .eq 'a' 11.0) (f==11):=bW (ak rfl) aG rfl;rw[cG ls (show p8 86=some ⟨2,2,Ou⟩from rfl) rfl rfl];unfold Ou;dsimp only;rw[bS (fz (EB.or c1 (EB.and c3 c2)))];rfl
end
def m6(o1 r1 o2 r2:Int):List Int:=(if (r1=1/\r2≠1)\/(r1=0/\r2=2)then[4]else[])++(if o1≠o2/\r2≠1 then[3]else[])
def m7(FP qg LG:Bool)(o2 r1 r2:Int):List Int:=if FP then[]else
 (if o2=2\/(o2=0/\qg=false)then[11]else[])++((if o2=0/\qg=true/\r2≠1 then[3]else[])++(if qg=false/\r1=0/\r2=0/\LG=true then[4]else[]))
def mMM(FP qg LG wide:Bool)(o1 r1 o2 r2:Int):List Int:=m6 o1 r1 o2 r2++(m7 FP qg LG o2 r1 r2++(if r2≠1/\wide=true then[3]else[]))
def mOM(only ko:Bool)(o r:Int):List Int:=if only then(if r=2\/(r=0/\ko=false)then[4]else[])++((if o=1/\r≠1 then[3]else[])++(if o=0/\ko=false then[5]else[]))else(if ko=false then[5]else[])++(if r≠1 then[3,4]else[])
def mMO(r:Int):List Int:=15::(if r=1 then[4]else[])
theorem qI(a b:List Int):fV (a++b)=fV a++fV b:=uD
theorem rJ{p:Prop} [Decidable p] (a:List Int):fV (if p then a else[])=if p then fV a else[]:=by split<;>rfl
theorem P9{FP qg LG wide:Bool}{o1 r1 o2 r2:Int}:Dz (wY o1 r1 o2 r2) (vf FP qg LG o2 r1 r2) r2 wide=fV (mMM FP qg LG wide o1 r1 o2 r2):=by
 unfold Dz wY vf mMM m6 m7;simp only[qI,rJ];cases FP with
 |true=>rfl
 |false=>
  rw[jj,jj];simp only[qI,rJ];rfl
theorem P_:([0,1].all λj=>R7.all λk=>ew (bN j) (rz (nk k))==(k==j))=true:=by decide+kernel
theorem V8{j k:Nat}(hj:j<2)(hk:k<7):ew (bN j) (rz (nk k))=(k==j):=by have:j=0\/j=1:=();exact cj (bf.mp (bf.mp P_ j (by simpa using this)) k (iF hk))
theorem Qa{j:Nat}{t:az}(hj:j<2)(hk:t.key<7):tU j t=fV (mOM (eg j t) (t.key==j) t.opt t.ro):=by
 have e:decide (t.key=j)=(t.key==j):=by rw[jd];simp
 unfold tU mOM FQ FR;rw[V8 hj hk,e];cases eg j t with
 |true=>
  simp only[if_true,qI,rJ];rfl
 |false=>
  rw[jj,jj,qI,rJ,rJ,lV];rfl
theorem Qb{t:az}:xc t=fV (mMO t.ro):=by
 have e:((t.ro:Int)=1)<->t.ro=1:=();unfold xc mMO;by_cases h:t.ro=1
 ·rw[if_pos h,if_pos (e.mpr h)];rfl
 ·rw[if_neg h,if_neg λz=>h (e.mp z)];rfl
def o6(b:Bool)(c:Int):List Int:=if b then[c]else[]
def tq(cs out:List Int):Bool:=match intsOf ((i8 cs []).map (·.1))with
 |some is=>decide (sortI is=out/\is.length<60/\cs.length<=900)
 |none=>false
theorem DO:(R3.all λo1=>R3.all λr1=>R3.all λo2=>R3.all λr2=>BB.all λkq=>BB.all λa1=>BB.all λa2=>BB.all λeq=>
  tq (mMM kq a2 a1 (!eq) (o1:Nat) (r1:Nat) (o2:Nat) (r2:Nat)) (o6 (Yr kq a2 eq o1 o2 r2) 3++(o6 (Yq kq a1 a2 r1 r2) 4++o6 (Jv kq a2 o2) 11)))=true:=by decide+kernel
theorem DP:(R3.all λo=>R3.all λr=>BB.all λonly=>BB.all λko=>tq (mOM only ko (o:Nat) (r:Nat)) (o6 (Sn only o r) 3++(o6 (Sm only ko r) 4++o6 (So only ko o) 5)))=true:=by decide+kernel
theorem DQ:(R3.all λr=>tq (mMO (r:Nat)) (o6 (r==1) 4++[15]))=true:=by decide+kernel
theorem vo:tq [] []=true:=by decide+kernel
theorem Gr{t t':az}(d:t.Dr)(d':t'.Dr):∃cs,F7 t t'=fV cs/\tq cs (o6 (Ys t t') 3++(o6 (nM4 t t') 4++o6 (P8 t t') 11))=true:=by
 have e:decide (t.key=t'.key)=(t.key==t'.key):=by rw[jd];simp
 refine⟨_,?_,bf.mp (bf.mp (bf.mp (bf.mp (bf.mp (bf.mp (bf.mp (bf.mp DO t.opt (xj d.ok.opt)) t.ro (xj d.ok.ro)) t'.opt (xj d'.ok.opt)) t'.ro (xj d'.ok.ro)) (t.key==t'.key) (yu _)) (decide (t.key<2)) (yu _)) (decide (t'.key<2)) (yu _)) (cD t t'&&cD t' t) (yu _)⟩;unfold F7;rw[e];exact P9
theorem Gs{j:Nat}{t:az}(hj:j<2)(d:t.Dr):∃cs,tU j t=fV cs/\tq cs (o6 (Sn (eg j t) t.opt t.ro) 3++(o6 (Sm (eg j t) (t.key==j) t.ro) 4++o6 (So (eg j t) (t.key==j) t.opt) 5))=true:=
 ⟨_,Qa hj d.ok.key,bf.mp (bf.mp (bf.mp (bf.mp DP t.opt (xj d.ok.opt)) t.ro (xj d.ok.ro)) (eg j t) (yu _)) (t.key==j) (yu _)⟩
theorem Gu{t:az}(d:t.Dr):∃cs,xc t=fV cs/\tq cs (o6 (t.ro==1) 4++[15])=true:=
 ⟨_,Qb,bf.mp DQ t.ro (xj d.ok.ro)⟩
section
variable{pm:List MO}{k h b:Nat}{aE:Int->Int->Bool}{tw:PV}
theorem DR(n:Nat){cs out:List Int}(N:gZ k h b aE tw (fV cs) pm)(hc:tq cs out=true):rn (n+1) 2 [.ax (b+6)] pm []=some (.d (.lst (out.map .int)),pm,[])/\∃fs,pm[b]?=some (.inst 2 fs)/\p6 14 fs=some (.ax (b+6))/\pm[b+6]?=some (.inst 1 [(0,.ax (b+7))]):=by
 obtain⟨t,kn,R,_,_⟩:=N.ex;unfold tq at hc;cases hi:intsOf ((i8 cs []).map (·.1))with
 |none=>rw[hi]at hc;cases hc
 |some is=>
  rw[hi]at hc;have hc:=of_decide_eq_true hc;have e:=f2 n R.iN R.iL hi hc.2.1 hc.2.2;rw[hc.1]at e;exact⟨e,_,R.iI,rfl,R.iN⟩
end
theorem xn:∀a b:List Int,kc (a.map .int) (b.map .int)=(a==b)
 |[],[]=>rfl
 |[],_::_=>rfl
 |_::_,[]=>rfl
 |x::a,y::b=>by show((x==y)&&kc (a.map .int) (b.map .int))=_;rw[xn a b];rfl
theorem Gv(a b:List Int):Di (.lst (a.map .int)) (.lst (b.map .int))=some (a==b):=by
 have e:bc (.lst (a.map .int)) (.lst (b.map .int))=(a==b):=xn a b;have ra:qv (.lst (a.map .int))=true:=kF a;have rb:qv (.lst (b.map .int))=true:=kF b;have da:dj (.lst (a.map .int))=1:=by show dY (a.map .int)+1=1;rw[nr]
 unfold Di;rw[e,ra,rb,da,UP ()];rfl
def fW(fs:List Int):List Int:=[3,4].filter λx=>fs.contains x
section
variable{X:Cx}{ls:Ls}{pm:List MO}{tm:List TO}{c:Nat}{fs cs:List Int}{σ:PS}{a b:E}
theorem kL{v:Nat}{ifs:Es}{p:Int->Bool}(hv:v<ls.length):∀(l:List Int),(∀x∈l,cx X ifs (ls.set v (some (.d (.int x)))) σ=some (p x,σ))->dm (λl s=>cx X ifs l s) (λl s=>eval X (.loc v) l s) v (l.map .int) ls σ=some ((l.filter p).map .int,σ)
 |[],_=>rfl
 |x::l,h=>by
  rw[kg];have hx:=h x (.head _);have ih:=kL hv l λz hz=>h z (.tail _ hz);have g:(ls.set v (some (.d (.int x))))[v]?= ~~~(.d (.int x)):=by rw[dz,if_pos rfl,if_pos hv]
  cases q:p x with
  |true=>
   rw[q]at hx;rw[List.filter_cons,q,if_pos rfl];exact oB hx (ak g) rfl ih
  |false=>
   rw[q]at hx;rw[List.filter_cons,q,if_neg ∅];exact Ly hx ih
theorem AG{k:Int}(ha:eval X a ls ⟨pm,tm⟩=some (.d (.int k),⟨pm,tm⟩))(hb:eval X b ls ⟨pm,tm⟩=some (.aI c,⟨pm,tm⟩))(hc:tm[c]?=some (.list (fs.map .int))):EB X ls ⟨pm,tm⟩ (.cmp .isin a b) (fs.contains k):=by refine bW ha hb ?_;show ai (X3 (.int k)) (ai toD tm[c]?)=_;rw[hc];exact nH
theorem Gw{k:Int}(ha:eval X a ls ⟨pm,tm⟩=some (.d (.int k),⟨pm,tm⟩))(hb:eval X b ls ⟨pm,tm⟩=some (.aI c,⟨pm,tm⟩))(hc:tm[c]?=some (.list (fs.map .int))):EB X ls ⟨pm,tm⟩ (.cmp .eX a b) (!fs.contains k):=by refine bW ha hb ?_;show ai Dl (ai (X3 (.int k)) (ai toD tm[c]?))=_;rw[hc];exact aq (f:=Dl) (nH (k:=k))
theorem mx{α:Type}{l r:List α}{i:Nat}{x:α}(h:l[i]?=some x):(l++r)[i]?=some x:=by rw[mM (gf.mp h).1];exact h
theorem xo{v:Nat}{it:E}{ifs:Es}{p:Int->Bool}(hv:v<ls.length)(hi:eval X it ls ⟨pm,tm⟩=some (.aI c,⟨pm,tm⟩))(hc:tm[c]?=some (.list (fs.map .int)))(hl:fs.length<=100000)
  (h:∀x,cx X ifs (ls.set v (some (.d (.int x)))) ⟨pm,tm.set c .dead⟩=some (p x,⟨pm,tm.set c .dead⟩)):eval X (.comp (.loc v) v it ifs) ls ⟨pm,tm⟩=some (.aI tm.length,⟨pm,tm++[.list ((fs.filter p).map .int)]⟩):=by
 have ss:(tm.set c TO.dead).set c (.list (fs.map .int))=tm:=by rw[List.set_set];exact set_same hc
 have ff:fits ((fs.filter p).map D.int)=true:=by unfold fits;have:=List.length_filter_le p fs;rw[eT];exact qQ ()
 exact q_ hi (aq hc) (kL hv fs λx _=>h x) ff (congrArg (PS.mk pm) ss)
theorem vp{e:E}{l:List D}{iq:List TO}{m:Nat}(h:eval X e ls σ=some (.aI m,⟨pm,iq⟩))(hm:iq[m]?=some (.list l))(hl:l.length<=100000):eval X (.bi .len e) ls σ=some (.d (.int l.length),⟨pm,iq⟩):=by have ff:fits l=true:=qQ ();exact uV h ((aq (aq (f:=toD) hm)).trans (congrArg (dy _) ff))
end
section
variable{ls:Ls}{pm:List MO}{tm:List TO}{c n:Nat}{fs cs:List Int}{o1:D}{t:az}{i:Nat}
theorem DS(vq:ls[17]?= ~~~(.d (.lst (cs.map .int))))(l_:ls[18]?= ~~~(.aI c))(hc:tm[c]?=some (.list (fs.map .int)))(hn:25<=ls.length)(hl:fs.length<=100000):
  eval (aH (n+1)) (.comp 'y' 24 's' #[.nt (.call 86 #['y','r'])]) ls ⟨pm,tm⟩=some (.aI tm.length,⟨pm,tm++[.list ((fs.filter λf=>!rI cs f).map .int)]⟩):=by
 refine xo () (ak l_) hc hl λx=>?_;have g24:(ls.set 24 (some (.d (.int x))))[24]?= ~~~(.d (.int x)):=by rw[dz,if_pos rfl,if_pos ()]
 have Yt:(ls.set 24 (some (.d (.int x))))[17]?= ~~~(.d (.lst (cs.map .int))):=by rw[bq ∅];exact vq
 have e:=TB.nt (TB.call (x:=rI cs x) (show EB (aH (n+1)) (ls.set 24 (some (.d (.int x)))) ⟨pm,tm.set c .dead⟩ (.call 86 #['y','r']) (rI cs x)from b_ (au (ak g24) (au (ak Yt) bp)) (bX rfl (f86 (n:=n)))));unfold TB at e;exact gM e
def tC2:E:= .and #[.cmp .lt (.sub 'l' 0.0) 2.0,.ite (.cmp .gt (.bi .len 'l') 1.0) (.cmp .lt (.sub 'm' 0.0) 2.0) (.or #[.cmp .eq (.sub 'm' 3.0) 0.0,.cmp .gt (.sub 'm' 0.0) 1.0])]
def tX:E:= .ite (.cmp .gt (.bi .len 'l') 1.0) 11.0 5.0
def AH:E:= .comp 'x' 23 (.tup #[3.0,4.0]) #[.cmp .isin 'x' 's']
theorem tY{X:Cx}(l_:ls[18]?= ~~~(.aI c))(hc:tm[c]?=some (.list (fs.map .int)))(hn:25<=ls.length):eval X AH ls ⟨pm,tm⟩=some (.aI tm.length,⟨pm,tm++[.list ((fW fs).map .int)]⟩):=by
 have et:eval X (.tup #[3.0,4.0]) ls ⟨pm,tm⟩=some (.d (.tup [.int 3,.int 4]),⟨pm,tm⟩):=DN aG aG;have f:=kL (X:=X) (ls:=ls) (σ:=⟨pm,tm⟩) (v:=23) (ifs:=#[.cmp .isin 'x' 's']) (p:=λx=>fs.contains x) () [3,4] λx _=>by
  have g23:(ls.set 23 (some (.d (.int x))))[23]?= ~~~(.d (.int x)):=by rw[dz,if_pos rfl,if_pos ()]
  have V9:(ls.set 23 (some (.d (.int x))))[18]?= ~~~(.aI c):=by rw[bq ∅];exact l_
  have e:=TB.cmp (AG (X:=X) (pm:=pm) (tm:=tm) (ak g23) (ak V9) hc);unfold TB at e;exact gM e
 unfold AH;have ff:fits ((fW fs).map D.int)=true:=by unfold fits;have:(fW fs).length<=2:=List.length_filter_le _ _;rw[eT];exact qQ ()
 unfold fW at ff⊢;exact q_ et (fy:= .none) rfl f ff rfl
end
def Sq:Ss:=#[.ite (.and #[.cmp .gt (.bi .len 'm') 1.0,.cmp .gt (.bi .len (.comp 'y' 24 's' #[.nt (.call 86 #['y','r'])])) 0.0]) #[.bad] .nil,.ite (.and #[.cmp .eq (.bi .len 'm') 1.0,.or #[.cmp .isin 0.0 's',.cmp .isin 11.0 's']]) #[.bad] .nil,.asg 20 (.comp 'x' 23 (.tup #[3.0,4.0]) #[.cmp .isin 'x' 's']),.asg 21 (.ite (.cmp .gt (.bi .len 'l') 1.0) 11.0 5.0),.ite (.cmp .eq (.bi .len 'm') 1.0) #[.ite (.cmp .ne 'r' (.bin .add (.comp 'w' 22 'u' #[.cmp .eq 'w' 4.0]) (.lst #[15.0]))) #[.bad] .nil] #[.ite (.and #[.cmp .lt (.sub 'l' 0.0) 2.0,.ite (.cmp .gt (.bi .len 'l') 1.0) (.cmp .lt (.sub 'm' 0.0) 2.0) (.or #[.cmp .eq (.sub 'm' 3.0) 0.0,.cmp .gt (.sub 'm' 0.0) 1.0])]) #[.ite (.cmp .ne 'r' (.bin .add 'u' (.ite (.cmp .isin 11.0 's') (.lst #['v']) (.lst .nil)))) #[.bad] .nil] .nil]]
def Yu:Ss:=#[.ite (.and #[.call 84 #['l','m'],.cmp .eX 0.0 's',.or #[.cmp .eX 11.0 's',.call 85 #['l','m']]]) #[.bad] .nil]
section
variable{ls:Ls}{pm:List MO}{tm:List TO}{c n gk:Nat}{fs cs:List Int}{o1:D}{t:az}{i:Nat}{cb:Bool}
theorem neL{X:Cx}{a b:E}{iq:List TO}{m:Nat}{x y:List Int}(ha:eval X a ls ⟨pm,tm⟩=some (.d (.lst (x.map .int)),⟨pm,tm⟩))(hb:eval X b ls ⟨pm,tm⟩=some (.aI m,⟨pm,iq⟩))(hm:iq[m]?=some (.list (y.map .int))):test X (.cmp .ne a b) ls ⟨pm,tm⟩=some (!(x==y),⟨pm,iq⟩):=by
 have h:compare .ne (.d (.lst (x.map .int))) (.aI m) ⟨pm,iq⟩=some (!(x==y)):=by refine aq (f:=Dl) (x:=(x==y)) ?_;show ai (Ul (ai toD iq[m]?)) (some _)=_;rw[hm];exact Gv x y
 have e:eval X (.cmp .ne a b) ls ⟨pm,tm⟩=some (.d (.bool (!(x==y))),⟨pm,iq⟩):=bW ha hb h;exact aq e
theorem V_{X:Cx}{a b:E}{σ:PS}{qj nY:List TO}{m k:Nat}{x y:List Int}(ha:eval X a ls σ=some (.aI m,⟨pm,qj⟩))(hb:eval X b ls ⟨pm,qj⟩=some (.aI k,⟨pm,nY⟩))(hx:nY[m]?=some (.list (x.map .int)))(hy:nY[k]?=some (.list (y.map .int)))(hl:x.length+y.length<=100000):
  eval X (.bin .add a b) ls σ=some (.aI nY.length,⟨pm,nY++[.list ((x++y).map .int)]⟩):=by
 refine dC ha hb ?_;have ff:fits (x.map D.int++y.map D.int)=true:=by unfold fits;exact qQ (by simp;omega)
 show ai (Od .add _ (ai toD _)) (ai toD _)=_;rw[hx,hy];show dy _ (fits _)=_;rw[ff,uD];rfl
theorem Qc{X:Cx}{e:E}{k:Int}(h:eval X e ls ⟨pm,tm⟩=some (.d (.int k),⟨pm,tm⟩)):eval X (.lst #[e]) ls ⟨pm,tm⟩=some (.aI tm.length,⟨pm,tm++[.list ([k].map .int)]⟩):=by exact uU (au h bp) rfl rfl
theorem Qd{X:Cx}:eval X (.lst .nil) ls ⟨pm,tm⟩=some (.aI tm.length,⟨pm,tm++[.list (([]:List Int).map .int)]⟩):=by exact uU bp rfl rfl
theorem hH{α:Type}{l:List α}{x:α}:(l++[x])[l.length]?=some x:=by simp
def eh(ls:Ls)(H7 H8:PV):Ls:=(ls.set 20 (some H7)).set 21 (some H8)
theorem AI{H7 H8:PV}{k:Nat}{v:PV}(h:ls[k]?= ~~~v)(hk:k<20):(eh ls H7 H8)[k]?= ~~~v:=by unfold eh;rw[bq (),bq ()];exact h
theorem Gx(hn:25<=ls.length)(gV:ls[12]?= ~~~(.d t.d))(vq:ls[17]?= ~~~(.d (.lst (cs.map .int))))(l_:ls[18]?= ~~~(.aI c))(hc:tm[c]?=some (.list (fs.map .int)))(hl:fs.length<=100000)
  (hT:∀f∈fs,rI cs f=true)
  (Gy:∀bo σ,(∀k v,k<20->ls[k]?= ~~~v->bo[k]?= ~~~v)->eval (aH (n+1)) tX bo σ=some (.d (.int gk),σ)) (V':∀bo σ,(∀k v,k<20->ls[k]?= ~~~v->bo[k]?= ~~~v)->TB (aH (n+1)) bo σ tC2 cb)
  (hC:cb=true->cs=fW fs++(if fs.contains 11 then[(gk:Int)]else[])):
  ∃H7 H8 j,execs (aH (n+1)) Sq ls ⟨pm,tm⟩=some (.next,eh ls H7 H8,⟨pm,tm++j⟩):=by
 have tc:=DS (n:=n) (pm:=pm) vq l_ hc hn hl;have fe:fs.filter (λf=>!rI cs f)=[]:=by rw[List.filter_eq_nil_iff];intro f hf;rw[hT f hf];decide
 rw[fe]at tc;have lt:=vp tc hH (by simp);let qj:=tm++[TO.list (([]:List Int).map .int)];have hc1:qj[c]?=some (.list (fs.map .int)):=mx hc;have s1:test (aH (n+1)) (.and #[.cmp .gt (.bi .len 'm') 1.0,.cmp .gt (.bi .len (.comp 'y' 24 's' #[.nt (.call 86 #['y','r'])])) 0.0]) ls ⟨pm,tm⟩=some (false,⟨pm,qj⟩):=by have g1:TB (aH (n+1)) ls ⟨pm,tm⟩ (.cmp .gt (.bi .len 'm') 1.0) true:=TB.cmp (EB.EP (mw gV) d9);have g2:eval (aH (n+1)) (.cmp .gt (.bi .len (.comp 'y' 24 's' #[.nt (.call 86 #['y','r'])])) 0.0) ls ⟨pm,tm⟩=some (.d (.bool false),⟨pm,qj⟩):=bW lt aG rfl;unfold TB at g1;exact mY g1 (ON (aq g2))
 have s2:TB (aH (n+1)) ls ⟨pm,qj⟩ (.and #[.cmp .eq (.bi .len 'm') 1.0,.or #[.cmp .isin 0.0 's',.cmp .isin 11.0 's']]) (false&&true):=TB.and (TB.cmp (EB.j_ (mw gV) d9)) λh=>nomatch h;have fZ:=tY (X:=aH (n+1)) (pm:=pm) l_ hc1 hn;let nY:=qj++[TO.list ((fW fs).map .int)];have hc2:nY[c]?=some (.list (fs.map .int)):=mx hc1;have jz:=Gy (ls.set 20 (some (.aI qj.length))) ⟨pm,nY⟩ λk v hk h=>by rw[bq ()];exact h
 have ag:∀k v,k<20->ls[k]?= ~~~v->(eh ls (.aI qj.length) (.d (.int gk)))[k]?= ~~~v:=λk v hk h=>AI h hk;have s5:TB (aH (n+1)) (eh ls (.aI qj.length) (.d (.int gk))) ⟨pm,nY⟩ (.cmp .eq (.bi .len 'm') 1.0) false:=TB.cmp (EB.j_ (mw (ag _ _ ∅ gV)) d9);have s6:=V' (eh ls (.aI qj.length) (.d (.int gk))) ⟨pm,nY⟩ ag;have Yv:(eh ls (.aI qj.length) (.d (.int gk)))[20]?= ~~~(.aI qj.length):=by unfold eh;rw[bq ∅,dz,if_pos rfl,if_pos ()]
 have l21:(eh ls (.aI qj.length) (.d (.int gk)))[21]?= ~~~(.d (.int gk)):=by unfold eh;rw[dz,if_pos rfl,if_pos (by rw[gq];omega)]
 unfold Sq;unfold AH at fZ;unfold tX at jz;rw[av (aS s1 aP),av (aS s2 aP),av (bC fZ),av (bC jz)];unfold eh at s5 s6 Yv l21 ag;cases q:cb with
 |false=>
  rw[q]at s6;unfold tC2 at s6;refine⟨.aI qj.length,.d (.int gk),[TO.list (([]:List Int).map .int)]++[TO.list ((fW fs).map .int)],?_⟩;rw[av (aS s5 (by rw[av (aS s6 aP)];exact aP)),aP];unfold eh;simp only[nY,qj,eI]
 |true=>
  rw[q]at s6;unfold tC2 at s6;have hC:=hC q;have w:fW fs=[3,4].filter λx=>fs.contains x:=rfl;have wl:(fW fs).length<=2:=List.length_filter_le _ _;have t18:=ak (X:=aH (n+1)) (σ:=⟨pm,nY⟩) (ag _ _ ∅ l_);have Ag:=TB.cmp (AG (X:=aH (n+1)) (a:= .lit (.int 11)) aG t18 hc2);have el:∃k Qe,eval (aH (n+1)) (.ite (.cmp .isin 11.0 's') (.lst #['v']) (.lst .nil)) ((ls.set 20 (some (.aI qj.length))).set 21 (some (.d (.int gk)))) ⟨pm,nY⟩=some (.aI k,⟨pm,nY++Qe⟩)/\(nY++Qe)[k]?=some (.list ((if fs.contains 11 then[(gk:Int)]else[]).map .int)):=by
   cases q:fs.contains 11 with
   |true=>
    rw[q]at Ag;exact⟨_,_,iY Ag (Qc (ak l21)),hH⟩
   |false=>
    rw[q]at Ag;exact⟨_,_,ig Ag Qd,hH⟩
  obtain⟨k,Qe,e7,e8⟩:=el;have e9:=V_ (ak Yv) e7 (mx (r:=Qe) (hH (l:=qj) (x:=TO.list ((fW fs).map .int)))) e8 (by split<;>simp<;>omega);have O5:=neL (ak (ag _ _ ∅ vq)) e9 hH;rw[<-hC,show(cs==cs)=true by simp]at O5;refine⟨.aI qj.length,.d (.int gk),[TO.list (([]:List Int).map .int)]++([TO.list ((fW fs).map .int)]++(Qe++[TO.list (cs.map .int)])),?_⟩;have LR:execs (aH (n+1)) #[.ite (.cmp .ne 'r' (.bin .add 'u' (.ite (.cmp .isin 11.0 's') (.lst #['v']) (.lst .nil)))) #[.bad] .nil] ((ls.set 20 (some (.aI qj.length))).set 21 (some (.d (.int gk)))) ⟨pm,nY⟩=some (.next,(ls.set 20 (some (.aI qj.length))).set 21 (some (.d (.int gk))),⟨pm,nY++Qe++[TO.list (cs.map .int)]⟩):=by rw[av (aS O5 aP)];exact aP
  rw[av (aS s5 (by rw[av (bI s6 LR)];exact aP)),aP];unfold eh;simp only[nY,qj,eI]
end
def Wa:S:= .ite (.and #[.cmp .eq 'l' 'm',.or #[.nt 'q',.cmp .ne 'r' (.lst .nil)]]) #[.bad] .nil
section
variable{ls:Ls}{pm:List MO}{tm:List TO}{c n gk:Nat}{fs cs:List Int}{o1 o2:D}{t:az}{i:Nat}
theorem Qf(hn:25<=ls.length)(gV:ls[12]?= ~~~(.d (oD i)))(vq:ls[17]?= ~~~(.d (.lst (cs.map .int))))(l_:ls[18]?= ~~~(.aI c))(hc:tm[c]?=some (.list (fs.map .int)))
  (h0:fs.contains 0=false) (iV:fs.contains 11=false)
  (Gy:∀bo σ,(∀k v,k<20->ls[k]?= ~~~v->bo[k]?= ~~~v)->eval (aH (n+1)) tX bo σ=some (.d (.int gk),σ))
  (hC:cs=(fW fs).filter (λx=>x==4)++[15]):
  ∃H7 H8 j,execs (aH (n+1)) Sq ls ⟨pm,tm⟩=some (.next,eh ls H7 H8,⟨pm,tm++j⟩):=by
 have wl:(fW fs).length<=2:=List.length_filter_le _ _;have s1:TB (aH (n+1)) ls ⟨pm,tm⟩ (.and #[.cmp .gt (.bi .len 'm') 1.0,.cmp .gt (.bi .len (.comp 'y' 24 's' #[.nt (.call 86 #['y','r'])])) 0.0]) (false&&true):=TB.and (TB.cmp (EB.EP (o5 gV) d9)) λh=>nomatch h;have Wb:=ak (X:=aH (n+1)) (σ:=⟨pm,tm⟩) l_;have s2:=TB.and (TB.cmp (EB.j_ (X:=aH (n+1)) (σ:=⟨pm,tm⟩) (o5 gV) d9)) λ_=>TB.or (TB.cmp (AG (X:=aH (n+1)) (a:= .lit (.int 0)) aG Wb hc)) (TB.cmp (AG (X:=aH (n+1)) (a:= .lit (.int 11)) aG Wb hc));rw[h0,iV]at s2;have fZ:=tY (X:=aH (n+1)) (pm:=pm) l_ hc hn;let nY:=tm++[TO.list ((fW fs).map .int)];have jz:=Gy (ls.set 20 (some (.aI tm.length))) ⟨pm,nY⟩ λk v hk h=>by rw[bq ()];exact h
 have ag:∀k v,k<20->ls[k]?= ~~~v->(eh ls (.aI tm.length) (.d (.int gk)))[k]?= ~~~v:=λk v hk h=>AI h hk;have s5:TB (aH (n+1)) (eh ls (.aI tm.length) (.d (.int gk))) ⟨pm,nY⟩ (.cmp .eq (.bi .len 'm') 1.0) true:=TB.cmp (EB.j_ (o5 (ag _ _ ∅ gV)) d9);have Yv:(eh ls (.aI tm.length) (.d (.int gk)))[20]?= ~~~(.aI tm.length):=by unfold eh;rw[bq ∅,dz,if_pos rfl,if_pos ()]
 have ln:(eh ls (.aI tm.length) (.d (.int gk))).length=ls.length:=by unfold eh;rw[gq,gq]
 have e1:=xo (X:=aH (n+1)) (ls:=eh ls (.aI tm.length) (.d (.int gk))) (pm:=pm) (tm:=nY) (v:=22) (ifs:=#[.cmp .eq 'w' 4.0]) (p:=λx=>x==4) () (ak Yv) hH () λx=>by
  have g22:((eh ls (.aI tm.length) (.d (.int gk))).set 22 (some (.d (.int x))))[22]?= ~~~(.d (.int x)):=by rw[dz,if_pos rfl,if_pos ()]
  have e:=TB.cmp (show EB (aH (n+1)) ((eh ls (.aI tm.length) (.d (.int gk))).set 22 (some (.d (.int x)))) ⟨pm,nY.set tm.length .dead⟩ (.cmp .eq 'w' 4.0) (x==4)from bW (ak g22) aG rfl);exact gM e
 have fl:((fW fs).filter λx=>x==4).length<=2:=aW (List.length_filter_le _ _) wl;have e2:=V_ e1 (Qc (k:=15) aG) (mx hH) hH (by simp;omega);have e3:=neL (ak (ag _ _ ∅ vq)) e2 hH;rw[<-hC,show(cs==cs)=true by simp]at e3;unfold Sq;unfold AH at fZ;unfold tX at jz;unfold eh at s5 e3;have e4:execs (aH (n+1)) #[.ite (.cmp .ne 'r' (.bin .add (.comp 'w' 22 'u' #[.cmp .eq 'w' 4.0]) (.lst #[15.0]))) #[.bad] .nil] ((ls.set 20 (some (.aI tm.length))).set 21 (some (.d (.int gk)))) ⟨pm,nY⟩=some (.next,(ls.set 20 (some (.aI tm.length))).set 21 (some (.d (.int gk))),⟨pm,nY++[TO.list (((fW fs).filter λx=>x==4).map .int)]++[TO.list ([15].map .int)]++[TO.list (cs.map .int)]⟩):=by rw[av (aS e3 aP)];exact aP
 refine⟨.aI tm.length,.d (.int gk),[TO.list ((fW fs).map .int)]++([TO.list (((fW fs).filter λx=>x==4).map .int)]++([TO.list ([15].map .int)]++[TO.list (cs.map .int)])),?_⟩;rw[av (aS s1 aP),av (aS s2 aP),av (bC fZ),av (bC jz),av (bI s5 e4),aP];unfold eh;simp only[nY,eI]
theorem y_{Yw Yx:Bool}(iV:ls[11]?= ~~~(.d o1))(gV:ls[12]?= ~~~(.d o2))(l_:ls[18]?= ~~~(.aI c))(hc:tm[c]?=some (.list (fs.map .int)))
  (e84:rn (n+2) 84 [.d o1,.d o2] pm []=some (.d (.bool Yw),pm,[])) (e85:rn (n+2) 85 [.d o1,.d o2] pm []=some (.d (.bool Yx),pm,[])) (hC:(Yw&&(!fs.contains 0&&(!fs.contains 11||Yx)))=false):
  execs (aH (n+2)) Yu ls ⟨pm,tm⟩=some (.next,ls,⟨pm,tm⟩):=by
 have Wb:=ak (X:=aH (n+2)) (σ:=⟨pm,tm⟩) l_;have a84:EB (aH (n+2)) ls ⟨pm,tm⟩ (.call 84 #['l','m']) Yw:=b_ (au (ak iV) (au (ak gV) bp)) (bX rfl e84);have a85:EB (aH (n+2)) ls ⟨pm,tm⟩ (.call 85 #['l','m']) Yx:=b_ (au (ak iV) (au (ak gV) bp)) (bX rfl e85);have s:=TB.JH (TB.call a84) (TB.cmp (Gw (X:=aH (n+2)) (a:= .lit (.int 0)) aG Wb hc)) (TB.or (TB.cmp (Gw (X:=aH (n+2)) (a:= .lit (.int 11)) aG Wb hc)) (TB.call a85));rw[hC]at s;unfold Yu;rw[av (aS s aP),aP]
theorem Gz{X:Cx}{sm lets:Bool}(iV:ls[11]?= ~~~(.d o1))(gV:ls[12]?= ~~~(.d o2))(wc:ls[16]?= ~~~(.d (.bool lets)))(vq:ls[17]?= ~~~(.d (.lst (cs.map .int))))(he:Di o1 o2=some sm)(hs:sm=true->lets=true/\cs=[]):
  ∃j,exec X Wa ls ⟨pm,tm⟩=some (.next,ls,⟨pm,tm++j⟩):=by
 have s1:TB X ls ⟨pm,tm⟩ (.cmp .eq 'l' 'm') sm:=TB.cmp (show EB X ls ⟨pm,tm⟩ (.cmp .eq 'l' 'm') sm from bW (ak iV) (ak gV) he);cases sm with
 |false=>exact⟨[],by rw[ej];exact aS (TB.and (y:=true) s1 λh=>nomatch h) aP⟩
 |true=>
  obtain⟨hl,hc⟩:=hs rfl;subst hl;subst hc;have s2:=TB.nt (TB.loc (X:=X) (σ:=⟨pm,tm⟩) wc);have fZ:=neL (X:=X) (pm:=pm) (tm:=tm) (x:=[]) (y:=[]) (ak vq) Qd hH;unfold TB at s1 s2;have jz:test X (.and #[.cmp .eq 'l' 'm',.or #[.nt 'q',.cmp .ne 'r' (.lst .nil)]]) ls ⟨pm,tm⟩=some (false,⟨pm,tm++[TO.list (([]:List Int).map .int)]⟩):=by exact mY s1 (gM (tOrF s2 (tOr1 fZ)))
  exact⟨_,aS jz aP⟩
end
def d_(s:List Nat)(ls bo:Ls):Prop:=bo.length=ls.length/\∀i,i∉s->bo[i]?=ls[i]?
theorem d_.refl{s:List Nat}{ls:Ls}:d_ s ls ls:=⟨rfl,λ_ _=>rfl⟩
theorem d_.trans{s:List Nat}{a b c:Ls}(x:d_ s a b)(y:d_ s b c):d_ s a c:=⟨y.1.trans x.1,λi h=>(y.2 i h).trans (x.2 i h)⟩
theorem d_.set{s:List Nat}{ls:Ls}{i:Nat}{v:Option PV}(h:i∈s):d_ s ls (ls.set i v):=⟨gq,λj hj=>bq λe=>hj (by rw[<-e];exact h)⟩
theorem d_.get{s:List Nat}{ls bo:Ls}(a:d_ s ls bo){i:Nat}{v:Option PV}(h:ls[i]?=some v)(hi:i∉s):bo[i]?=some v:=by rw[a.2 i hi];exact h
theorem xp:∀f1 f2 f3 f4:Bool,(qF f1 f2 f3 f4).length<=200:=by decide+kernel
theorem kM{α β:Type}{f:α->List β}{k:Nat}:∀(l:List α),(∀x∈l,(f x).length<=k)->(l.flatMap f).length<=l.length*k
 |[],_=>by simp
 |x::l,h=>by rw[List.flatMap_cons,dS,fw,Nat.add_mul,Nat.one_mul];exact aW (lM (Nat.add_comm _ _)) (hZ (kM l λz hz=>h z (.tail _ hz)) (h x (.head _)))
theorem xq{a b:ik}(h:b.length<=100):(qi a b).length<=300:=by have:=kM (f:=λnm=>iU (a_ nm a) ((a_ nm b).getD (0,false,false))) (k:=3) (c9 b) λn _=>AA _ _;exact aW this (mQ 3 (aW (lM (eT _)) h))
section
variable{ls:Ls}{pm:List MO}{tm:List TO}{c n:Nat}{o1 o2:D}{f1 f2:a9->ik}
def bF:Ss:=#[.asg 18 (.bin .add 's' (.call 83 #[.call 82 #['l','t'],.call 82 #['m','t']]))]
theorem Wc(ws:List a9):∀(ls:Ls) (tm:List TO) (acc:List Int) (c:Nat),(∀w∈ws,rn (n+1) 82 [.d o1,.d (bA w)] pm []=some (.d (f_ (f1 w)),pm,[])/\rn (n+1) 82 [.d o2,.d (bA w)] pm []=some (.d (f_ (f2 w)),pm,[])/\(f2 w).length<=100)->
  ls[11]?= ~~~(.d o1)->ls[12]?= ~~~(.d o2)->ls[18]?= ~~~(.aI c)->25<=ls.length->tm[c]?=some (.list (acc.map .int))->acc.length+ws.length*300<=100000->
  ∃bo j c',dO (λl s=>execs (aH (n+1)) bF l s) (kf 19) (ws.map bA) ls ⟨pm,tm⟩=some (.next,bo,⟨pm,tm++j⟩)/\d_ [18,19] ls bo/\bo[18]?= ~~~(.aI c')/\(tm++j)[c']?=some (.list ((acc++cP f1 f2 ws).map .int)):=by
 induction ws with
 |nil=>
  intro ls tm acc c _ _ _ l_ _ hc _;exact⟨ls,[],c,by rw[ej];rfl,.refl,l_,by rw[ej,hc];simp[cP]⟩
 |cons w ws ih=>
  intro ls tm acc c h iV gV l_ hn hc hl;rw[fw,Nat.add_mul]at hl;obtain⟨r1,r2,l2⟩:=h w (.head _);have r3:=f83 (pm:=pm) (n:=n) (one:=f1 w) (other:=f2 w) l2;have fl:=xq (a:=f1 w) l2;have JN:(ls.set 19 (some (.d (bA w))))[11]?= ~~~(.d o1):=by rw[bq ∅];exact iV
  have za:(ls.set 19 (some (.d (bA w))))[12]?= ~~~(.d o2):=by rw[bq ∅];exact gV
  have V9:(ls.set 19 (some (.d (bA w))))[18]?= ~~~(.aI c):=by rw[bq ∅];exact l_
  have g19:(ls.set 19 (some (.d (bA w))))[19]?= ~~~(.d (bA w)):=by rw[dz,if_pos rfl,if_pos ()]
  have e83:eval (aH (n+1)) (.call 83 #[.call 82 #['l','t'],.call 82 #['m','t']]) (ls.set 19 (some (.d (bA w)))) ⟨pm,tm⟩=some (.d (.lst ((qi (f1 w) (f2 w)).map .int)),⟨pm,tm⟩):=
   b_ (au (b_ (au (ak JN) (au (ak g19) bp)) (bX rfl r1)) (au (b_ (au (ak za) (au (ak g19) bp)) (bX rfl r2)) bp)) (bX rfl r3)
  have eb:eval (aH (n+1)) (.bin .add 's' (.call 83 #[.call 82 #['l','t'],.call 82 #['m','t']])) (ls.set 19 (some (.d (bA w)))) ⟨pm,tm⟩=some (.aI tm.length,⟨pm,tm++[.list ((acc++qi (f1 w) (f2 w)).map .int)]⟩):=by
   refine dC (ak V9) e83 ?_;have ff:fits (acc.map D.int++(qi (f1 w) (f2 w)).map D.int)=true:=by unfold fits;exact qQ (by simp;omega)
   show ai (Od .add _ (some _)) (ai toD _)=_;rw[hc];show dy _ (fits _)=_;rw[ff,uD];rfl
  obtain⟨bo,j,c',e,A,g,hg⟩:=ih ((ls.set 19 (some (.d (bA w)))).set 18 (some (.aI tm.length))) (tm++[.list ((acc++qi (f1 w) (f2 w)).map .int)]) (acc++qi (f1 w) (f2 w)) tm.length (λz hz=>h z (.tail _ hz))
   (by rw[bq ∅];exact JN) (by rw[bq ∅];exact za) (by rw[dz,if_pos rfl,if_pos (by rw[gq];omega)]) (by rw[gq,gq];exact hn) hH (by rw[dS];omega)
  refine⟨bo,[.list ((acc++qi (f1 w) (f2 w)).map .int)]++j,c',?_,((d_.set ∅).trans (d_.set ∅)).trans A,g,?_⟩
  ·rw[kg];rw[eI]at e;exact fJ rfl ((av (bC eb)).trans aP) e
  ·rw[<-eI,hg];unfold cP;rw[List.flatMap_cons,eI]
theorem LS(a:Nat):cK a<7:=by unfold cK;split<;>omega
def eK(i:Nat):E:= .ite (.cmp .gt (.bi .len (.loc i)) 1.0) (.sub (.loc i) 0.0) 1.0
def vr:S:= .gr 19 (.call 81 #[.lst #[(eK 11),(eK 12)]]) bF
theorem zb{a b:Nat}(h:∀w∈bY a b,rn (n+2) 82 [.d o1,.d (bA w)] pm []=some (.d (f_ (f1 w)),pm,[])/\rn (n+2) 82 [.d o2,.d (bA w)] pm []=some (.d (f_ (f2 w)),pm,[])/\(f2 w).length<=100)
  (iV:ls[11]?= ~~~(.d o1)) (gV:ls[12]?= ~~~(.d o2)) (l_:ls[18]?= ~~~(.aI c)) (hn:25<=ls.length) (hc:tm[c]?=some (.list [])) (Ag:∀σ,eval (aH (n+2)) (eK 11) ls σ=some (.d (.int (cK a)),σ)) (LR:∀σ,eval (aH (n+2)) (eK 12) ls σ=some (.d (.int (cK b)),σ)):
  ∃bo j c',exec (aH (n+2)) vr ls ⟨pm,tm⟩=some (.next,bo,⟨pm,tm++j⟩)/\d_ [18,19] ls bo/\bo[18]?= ~~~(.aI c')/\(tm++j)[c']?=some (.list ((cP f1 f2 (bY a b)).map .int))/\(cP f1 f2 (bY a b)).length<=60000:=by
 have wl:(bY a b).length<=200:=xp _ _ _ _;have e81:rn (n+2) 81 [.aI 0] pm [cW (cK a:Nat) (cK b:Nat)]=some (.d (.lst ((bY a b).map bA)),pm,[cW (cK a:Nat) (cK b:Nat)]):=f81 n (cK a) (LS a) (cK b) (LS b);have el:iX (aH (n+2)) #[.lst #[(eK 11),(eK 12)]] ls ⟨pm,tm⟩=some ([.aI tm.length],⟨pm,tm++[cW (cK a:Nat) (cK b:Nat)]⟩):=by exact au (uU (au (Ag _) (au (LR _) bp)) rfl rfl) bp
 have ec:cJ ((aH (n+2)).fn 81) [.aI tm.length] ⟨pm,tm++[cW (cK a:Nat) (cK b:Nat)]⟩=some (.d (.lst ((bY a b).map bA)),⟨pm,tm++[cW (cK a:Nat) (cK b:Nat)]⟩):=VH e81;obtain⟨bo,j,c',e,A,g,hg⟩:=Wc (n:=n+1) (pm:=pm) (o1:=o1) (o2:=o2) (f1:=f1) (f2:=f2) (bY a b) ls (tm++[cW (cK a:Nat) (cK b:Nat)]) [] c h iV gV l_ hn (mx hc) (by simp;omega);refine⟨bo,[cW (cK a:Nat) (cK b:Nat)]++j,c',?_,A,g,?_,?_⟩
 ·unfold vr;rw[uW (b_ el ec) rfl e,eI];rfl
 ·rw[<-eI,hg];rfl
 ·have:=kM (f:=λw=>qi (f1 w) (f2 w)) (k:=300) (bY a b) λw hw=>xq (h w hw).2.2;unfold cP;omega
end
def We:S:= .asg 15 (.new 2 #[.new 3 #['c'],1.0])
def Wf:S:= .expr (.call 72 #['p'])
def JO(i:Nat):E:= .sub (.attr 'c' 0) (.loc i)
def GA:S:= .ite (.cmp .eq (.bi .len 'm') 1.0) #[.asg 16 (.call 49 #['p','o',(JO 13)])] #[.asg 16 (.call 51 #['p','n',(JO 13),(JO 14)])]
def Wg:S:= .asg 17 (.aR (.attr 'p' 14) 12 .nil)
def Wh:S:= .asg 18 (.lst .nil)
def gm:Ss:=#[We,Wf,GA,Wg,Wh,vr,.ite 'q' Sq Yu,Wa]
def gw:List Nat:=[15,16,17,18,19,20,21]
section
variable{ls:Ls}{aa ay:List D}{pm:List MO}{tm:List TO}{o1 o2:D}{f1 f2:a9->ik}{a b:Nat}{v sm:Bool}{Wi cs:List Int}
theorem rK{X:Cx}{i:Nat}{num:Int}{r:D}(T:ah pm aa ay)(h2:ls[2]?= ~~~(.ax 0))(hi:ls[i]?= ~~~(.d (.int num)))(nn:0<=num)(lt:num<900000)(hr:aa[num.toNat]?=some r):eval X (JO i) ls ⟨pm,tm⟩=some (.d r,⟨pm,tm⟩):=by
 refine cY (uT (ak h2) (aq T.i0)) (ak hi) ?_;have sm:small num=true:=by
  have:=qH (k:=num.toNat) ((Int.toNat_lt nn).mpr (Int.lt_trans lt ∅))
  rwa [wg nn]at this
 show ai (Dj (.int num)) (ai H0 pm[1]?)=_;rw[T.i1];show dy (ai s8 aa[num.toNat]?) _=_;rw[sm,ed nn,hr];rfl
theorem jB(hn:ls.length=26)(h2:ls[2]?= ~~~(.ax 0))(iV:ls[11]?= ~~~(.d o1))(gV:ls[12]?= ~~~(.d o2))(h9:9<=pm.length)(I:cu aa ay)(hl:aa.length<=500000)
  (wc:∃dt rf aE tw,exec (aH 59) GA (ls.set 15 (some (.ax (pm.length+1)))) ⟨hY pm,tm⟩=some (.next,(ls.set 15 (some (.ax (pm.length+1)))).set 16 (some (.d (.bool v))),⟨dt,tm⟩)/\gZ 2 pm.length (pm.length+1) aE tw (fV Wi) dt/\ah dt rf ay/\aa<+:rf/\rf.length<=aa.length+10)
  (hc:tq Wi cs=true)
  (hw:∀pm,∀w∈bY a b,rn 59 82 [.d o1,.d (bA w)] pm []=some (.d (f_ (f1 w)),pm,[])/\rn 59 82 [.d o2,.d (bA w)] pm []=some (.d (f_ (f2 w)),pm,[])/\(f2 w).length<=100)
  (Ag:∀bo σ,d_ gw ls bo->eval (aH 59) (eK 11) bo σ=some (.d (.int (cK a)),σ)) (LR:∀bo σ,d_ gw ls bo->eval (aH 59) (eK 12) bo σ=some (.d (.int (cK b)),σ))
  (ht:∀bo iq c aA,d_ gw ls bo->bo[16]?= ~~~(.d (.bool v))->bo[17]?= ~~~(.d (.lst (cs.map .int)))->bo[18]?= ~~~(.aI c)->iq[c]?=some (.list ((cP f1 f2 (bY a b)).map .int))->(cP f1 f2 (bY a b)).length<=60000->
   ∃zc j,exec (aH 59) (.ite 'q' Sq Yu) bo ⟨aA,iq⟩=some (.next,zc,⟨aA,iq++j⟩)/\d_ [20,21] bo zc)
  (he:Di o1 o2=some sm) (hs:sm=true->v=true/\cs=[]):
  ∃bo aA j rf,execs (aH 59) gm ls ⟨pm,tm⟩=some (.next,bo,⟨aA,tm++j⟩)/\d_ gw ls bo/\ah aA rf ay/\cu rf ay/\rf.length<=aa.length+10/\9<=aA.length:=by
 obtain⟨dt,rf,aE,tw,xr,N,T2,hp,F_⟩:=wc;have I2:=I.ext T2.rs hp;have e15:exec (aH 59) We ls ⟨pm,tm⟩=some (.next,ls.set 15 (some (.ax (pm.length+1))),⟨(pm++[.inst 3 bK])++cO (pm.length+1) pm.length 1,tm⟩):=bC (Vl 57 h2);have l15:(ls.set 15 (some (.ax (pm.length+1))))[15]?= ~~~(.ax (pm.length+1)):=by rw[dz,if_pos rfl,if_pos ()]
 have e72:exec (aH 59) Wf (ls.set 15 (some (.ax (pm.length+1)))) ⟨(pm++[.inst 3 bK])++cO (pm.length+1) pm.length 1,tm⟩=some (.next,ls.set 15 (some (.ax (pm.length+1))),⟨hY pm,tm⟩):=qA (b_ (au (ak l15) bp) (s_72 58)) rfl;obtain⟨e2,fs,iI,f14,iN⟩:=DR 58 N hc;let vt:=(ls.set 15 (some (.ax (pm.length+1)))).set 16 (some (.d (.bool v)));have XT:vt.length=26:=by simp only[vt,gq];exact hn
 have a16:d_ gw ls vt:=(d_.set ∅).trans (d_.set ∅);have l15':vt[15]?= ~~~(.ax (pm.length+1)):=by simp only[vt];rw[bq ∅];exact l15
 have e17:exec (aH 59) Wg vt ⟨dt,tm⟩=some (.next,vt.set 17 (some (.d (.lst (cs.map .int)))),⟨dt,tm⟩):=
  bC (mX (C:=1) (f:=2) (uT (ak l15') ((aq iI).trans f14)) (aq iN) rfl bp (bX rfl e2))
 let zd:=vt.set 17 (some (.d (.lst (cs.map .int))));have e18:exec (aH 59) Wh zd ⟨dt,tm⟩=some (.next,zd.set 18 (some (.aI tm.length)),⟨dt,tm++[.list (([]:List Int).map .int)]⟩):=bC Qd;let rL:=zd.set 18 (some (.aI tm.length));have Y9:rL.length=26:=by simp only[rL,zd,gq];exact XT
 have Wj:d_ gw ls rL:=a16.trans ((d_.set ∅).trans (d_.set ∅));have g16:rL[16]?= ~~~(.d (.bool v)):=by simp only[rL,zd,vt];rw[bq ∅,bq ∅,dz,if_pos rfl,if_pos (by rw[gq];omega)]
 have Yt:rL[17]?= ~~~(.d (.lst (cs.map .int))):=by simp only[rL,zd];rw[bq ∅,dz,if_pos rfl,if_pos ()]
 have V9:rL[18]?= ~~~(.aI tm.length):=by simp only[rL,zd];rw[dz,if_pos rfl,if_pos (by rw[gq];omega)]
 obtain⟨Qg,j,c,e19,Sr,c18,hcf,Qh⟩:=zb (n:=57) (ls:=rL) (pm:=dt) (tm:=tm++[.list (([]:List Int).map .int)]) (hw dt) (Wj.get iV ∅) (Wj.get gV ∅) V9 () hH (λσ=>Ag _ σ Wj) (λσ=>LR _ σ Wj);have A19':d_ gw rL Qg:=⟨Sr.1,λi hi=>Sr.2 i λh=>hi (by simp only[dJ,yz,or_false]at h;rcases h with h|h<;>subst h<;>decide)⟩
 have a19:=Wj.trans A19';obtain⟨Qi,j2,LF,Yy⟩:=ht Qg _ c dt a19 (Sr.get g16 ∅) (Sr.get Yt ∅) c18 hcf Qh;have A20':d_ gw Qg Qi:=⟨Yy.1,λi hi=>Yy.2 i λh=>hi (by simp only[dJ,yz,or_false]at h;rcases h with h|h<;>subst h<;>decide)⟩
 have a20:=a19.trans A20';obtain⟨j3,e21⟩:=Gz (X:=aH 59) (ls:=Qi) (pm:=dt) (tm:=tm++[.list (([]:List Int).map .int)]++j++j2) (a20.get iV ∅) (a20.get gV ∅) (Yy.get (Sr.get g16 ∅) ∅) (Yy.get (Sr.get Yt ∅) ∅) he hs;refine⟨Qi,dt,[.list (([]:List Int).map .int)]++(j++(j2++j3)),rf,?_,a20,T2,I2,F_,?_⟩
 ·unfold gm;rw[av e15,av e72,av xr,av e17,av e18,av e19,av LF,av e21,aP];simp only[eI]
 ·have:=(gf.mp iI).1;omega
end
section
set_option synthInstance.maxHeartbeats 1000000
set_option synthInstance.maxSize 1024
theorem DT:∀same pJ lax own n3 n4 zU iy f3 f4 lR:Bool,Gl true same pJ lax own n3 n4 zU iy f3 f4 lR=true->iy=false/\(f3=true->n3=true)/\(f4=true->n4=true)/\(lR=true->zU=true)/\(own=true->n3=f3/\n4=f4/\zU=lR)/\(same=true->n3=false/\n4=false/\zU=false):=by decide+kernel
theorem DU:∀same pJ lax own n3 n4 zU iy f3 f4 lR:Bool,Gl false same pJ lax own n3 n4 zU iy f3 f4 lR=true->(pJ&&(!iy&&(!lR||lax)))=false/\same=false:=by decide+kernel
theorem DV:∀c n3 n4 n5 iy f3 f4 lR:Bool,((!iy&&((!f3||n3)&&((!f4||n4)&&(!lR||n5))))&&(!c||(n3==f3&&(n4==f4&&n5==lR))))=true->iy=false/\(f3=true->n3=true)/\(f4=true->n4=true)/\(lR=true->n5=true)/\(c=true->n3=f3/\n4=f4/\n5=lR):=by decide+kernel
theorem vu(fs:List Int):fW fs=o6 (fs.contains 3) 3++o6 (fs.contains 4) 4:=by dsimp only[fW,o6];cases h3:fs.contains 3<;>cases h4:fs.contains 4<;>simp only[List.filter,h3,h4]<;>rfl
theorem xt(t t':az):Di t.d t'.d=some (decide (t=t')):=by
 have e:bc t.d t'.d=decide (t=t'):=by
  show(((t.key:Int)==t'.key)&&(((t.opt:Int)==t'.opt)&&(((t.ro:Int)==t'.ro)&&(((t.mask:Int)==t'.mask)&&((t.mem==t'.mem)&&true)))))=_;rw[nG,nG,nG,nG,jd];simp only[bx,fg,dK,wk];constructor
  ·rintro⟨a,b,c,d,e⟩;cases t;cases t';simp only at a b c d e;subst a;subst b;subst c;subst d;subst e;rfl
  ·intro e;subst e;simp
 unfold Di;rw[e];rfl
theorem nJ(i:Nat)(t:az):Di (oD i) t.d=some false/\Di t.d (oD i)=some false:=by
 have e1:bc (oD i) t.d=false:=by show(((i:Int)==t.key)&&false)=false;rw[Bool.and_false]
 have e2:bc t.d (oD i)=false:=by show(((t.key:Int)==i)&&false)=false;rw[Bool.and_false]
 unfold Di;rw[e1,e2];exact⟨rfl,rfl⟩
theorem AJ{n3 n4 nx f3 f4 lR:Bool}{x f:Int}(hx:x=11\/x=5)(h3:f3=true->n3=true)(h4:f4=true->n4=true)(iV:lR=true->nx=true)(hf:(f=3/\f3=true)\/(f=4/\f4=true)\/(f=11/\lR=true)):rI (o6 n3 3++(o6 n4 4++o6 nx x)) f=true:=by
 rcases hf with⟨e,h⟩|⟨e,h⟩|⟨e,h⟩<;>subst e
 ·rw[h3 h];cases n4<;>cases nx<;>rcases hx with e|e<;>subst e<;>rfl
 ·rw[h4 h];cases n3<;>cases nx<;>rcases hx with e|e<;>subst e<;>rfl
 ·rw[iV h];cases n3<;>cases n4<;>rcases hx with e|e<;>subst e<;>rfl
section
variable{ls:Ls}{aa ay:List D}{pm:List MO}{tm:List TO}{t t':az}{i:Nat}
theorem jG.lt{r:D}{x:Int}(p:jG aa r x)(h:aa.length<=600000):x<900000:=ob6 h (gf.mp p.2).1 p.1 rfl
theorem JP{X:Cx}{k:Nat}{σ:PS}(hk:t.key<7)(h:ls[k]?= ~~~(.d t.d)):eval X (eK k) ls σ=some (.d (.int (cK t.key)),σ):=by dsimp only[eK,cK];rw[if_pos hk];exact iY (TB.cmp (EB.EP (mw h) d9)) (jY h)
theorem Wk{X:Cx}{k:Nat}{σ:PS}(h:ls[k]?= ~~~(.d (oD i))):eval X (eK k) ls σ=some (.d (.int (cK (7+i))),σ):=by dsimp only[eK,cK];rw[if_neg ()];exact ig (TB.cmp (EB.EP (o5 h) d9)) d9
theorem AK{n:Nat}{w:a9}(hk:t.key<7)(h:LM t.key w=true)(pm:List MO):rn (n+1) 82 [.d t.d,.d (bA w)] pm []=some (.d (f_ (jy t w)),pm,[])/\(jy t w).length<=100:=by unfold LM at h;rw[if_pos hk]at h;refine⟨f82 hk h,?_⟩;unfold Yo at h;simp only[bx,dK]at h;unfold jy;rw[eT];exact h.2.2
theorem LU{n:Nat}{w:a9}(hi:i<2)(h:LM (7+i) w=true)(pm:List MO):rn (n+1) 82 [.d (oD i),.d (bA w)] pm []=some (.d (f_ (DK (7+i) w)),pm,[])/\(DK (7+i) w).length<=100:=by have hz:¬7+i<7:=();unfold LM at h;rw[if_neg hz,dK]at h;refine⟨?_,h⟩;have e:=f82o (pm:=pm) (n:=n) (w:=w) hi;have:i=0\/i=1:=();rcases this with e'|e'<;>subst e'<;>exact e
theorem o7{a b:Nat}(h:i_ a b=true){w:a9}(hw:w∈bY a b):LM a w=true/\LM b w=true:=by unfold i_ at h;simp only[bx,bf]at h;exact h.2.2 w hw
theorem GB{X:Cx}{σ:PS}(h:ls[11]?= ~~~(.d t.d)):eval X tX ls σ=some (.d (.int ((11:Nat):Int)),σ):=iY (TB.cmp (EB.EP (mw h) d9)) aG
theorem Qj{X:Cx}{σ:PS}(h:ls[11]?= ~~~(.d (oD i))):eval X tX ls σ=some (.d (.int ((5:Nat):Int)),σ):=ig (TB.cmp (EB.EP (o5 h) d9)) aG
theorem LV{σ:PS}(h:ls[12]?= ~~~(.d t.d)){X:Cx}:TB X ls σ (.cmp .eq (.bi .len 'm') 1.0) false:=TB.cmp (EB.j_ (mw h) d9)
theorem Wl{σ:PS}(h:ls[12]?= ~~~(.d (oD i))){X:Cx}:TB X ls σ (.cmp .eq (.bi .len 'm') 1.0) true:=TB.cmp (EB.j_ (o5 h) d9)
theorem Qk{p p':Nat}{num mv o o' tp l9:Int}{ae qh:List Int}(d:t.Dr)(d':t'.Dr)(hn:ls.length=26)(h2:ls[2]?= ~~~(.ax 0))(iV:ls[11]?= ~~~(.d t.d))(gV:ls[12]?= ~~~(.d t'.d))(H9:ls[13]?= ~~~(.d (.int num)))(LW:ls[14]?= ~~~(.d (.int mv)))
  (T:ah pm aa ay) (h9:9<=pm.length) (I:cu aa ay) (hl:aa.length<=500000) (L:jv aa t p num o tp ae) (L':jv aa t' p' mv o' l9 qh) (h5:5<=p):
  ∃bo aA j rf,execs (aH 59) gm ls ⟨pm,tm⟩=some (.next,bo,⟨aA,tm++j⟩)/\d_ gw ls bo/\ah aA rf ay/\cu rf ay/\rf.length<=aa.length+10/\9<=aA.length:=by
 obtain⟨cm,ec,Wm⟩:=Gr d d';have so:=jA (a:=t.key) (b:=t'.key) (.inl ⟨by have:=d.ok.key;omega,d'.ok.key⟩);have vw:=lawA d d';have RN:=λaE=>oK (aE:=aE) T h9;have TR:=(RN d7).2;obtain⟨dt,rf,aE,tw,e51,N2,T2,hp,F_⟩:=Vz I hl L L' d.ok d'.ok h5 TR λaE=>(RN aE).1;have g2:(ls.set 15 (some (.ax (pm.length+1))))[2]?= ~~~(.ax 0):=by rw[bq ∅];exact h2
 have za:(ls.set 15 (some (.ax (pm.length+1))))[12]?= ~~~(.d t'.d):=by rw[bq ∅];exact gV
 have Ql:(ls.set 15 (some (.ax (pm.length+1))))[13]?= ~~~(.d (.int num)):=by rw[bq ∅];exact H9
 have Wn:(ls.set 15 (some (.ax (pm.length+1))))[14]?= ~~~(.d (.int mv)):=by rw[bq ∅];exact LW
 have Wo:(ls.set 15 (some (.ax (pm.length+1))))[15]?= ~~~(.ax (pm.length+1)):=by rw[dz,if_pos rfl,if_pos ()]
 have Wq:=rK (X:=aH 59) (tm:=tm) TR g2 Ql L.at_.1 (L.at_.lt ()) L.at_.2;have r14:=rK (X:=aH 59) (tm:=tm) TR g2 Wn L'.at_.1 (L'.at_.lt ()) L'.at_.2;have xr:exec (aH 59) GA (ls.set 15 (some (.ax (pm.length+1)))) ⟨hY pm,tm⟩=some (.next,(ls.set 15 (some (.ax (pm.length+1)))).set 16 (some (.d (.bool (rB t t')))),⟨dt,tm⟩):=
  aS (LV za) (xe (r:=(_,_)) (bC (b_ (au (ak Wo) (au (ak Ql) (au Wq (au r14 bp)))) (bX rfl e51))))
 have ek:∀{bo σ},d_ gw ls bo->eval (aH 59) (eK 11) bo σ=some (.d (.int (cK t.key)),σ):=λA=>JP d.ok.key (A.get iV ∅);have LX:∀{bo σ},d_ gw ls bo->eval (aH 59) (eK 12) bo σ=some (.d (.int (cK t'.key)),σ):=λA=>JP d'.ok.key (A.get gV ∅);have hw:∀pm,∀w∈bY t.key t'.key,rn 59 82 [.d t.d,.d (bA w)] pm []=some (.d (f_ (jy t w)),pm,[])/\rn 59 82 [.d t'.d,.d (bA w)] pm []=some (.d (f_ (jy t' w)),pm,[])/\(jy t' w).length<=100:=λpm w hw=>
  ⟨(AK d.ok.key (o7 so hw).1 pm).1,AK d'.ok.key (o7 so hw).2 pm⟩
 cases hv:rB t t' with
 |true=>
  rw[hv]at vw;have q:=DT _ _ _ _ _ _ _ _ _ _ _ vw;rw[hv,lV,ec]at N2;rw[hv]at xr;refine jB (cs:=o6 (Ys t t') 3++(o6 (nM4 t t') 4++o6 (P8 t t') 11)) hn h2 iV gV h9 I hl ⟨dt,rf,aE,tw,xr,N2,T2,hp,F_⟩ Wm hw (λ_ _ A=>ek A) (λ_ _ A=>LX A) (λbo iq c aA A wc vq l_ hc Qh=>?_) (xt t t') (λhs=>⟨rfl,?_⟩)
  ·obtain⟨H7,H8,j,e⟩:=Gx (n:=58) (pm:=aA) (gk:=11) (cb:=decide (t.key<2)&&decide (t'.key<2)) (by have:=A.1;omega) (A.get gV ∅) vq l_ hc ()
    (λf hf=>by
     have hm:=jH.mpr hf;refine AJ (f3:=FA t t' 3) (f4:=FA t t' 4) (lR:=FA t t' 11) (.inl rfl) q.2.1 q.2.2.1 q.2.2.2.1 ?_;rcases AD hf with e|e|e|e<;>subst e
     ·have:FA t t' 0=true:=hm;rw[q.1]at this;cases this
     ·exact .inl ⟨rfl,hm⟩
     ·exact .inr (.inl ⟨rfl,hm⟩)
     ·exact .inr (.inr ⟨rfl,hm⟩))
    (λzc σ ag=>GB (ag 11 _ ∅ (A.get iV ∅)))
    (λzc σ ag=>TB.and (TB.cmp (EB.ltN (jY (ag 11 _ ∅ (A.get iV ∅))) tj)) λ_=>TB.ite (z:=true) (TB.cmp (EB.EP (mw (ag 11 _ ∅ (A.get iV ∅))) d9)) (λ_=>TB.cmp (EB.ltN (jY (ag 12 _ ∅ (A.get gV ∅))) tj)) λh=>nomatch h)
    (λYz=>by have z:=q.2.2.2.2.1 Yz;rw[z.1,z.2.1,z.2.2,vu,eI];rfl)
   refine⟨_,j,bI (TB.loc wc) e,?_⟩;exact(d_.set ∅).trans (d_.set ∅)
  ·have z:=q.2.2.2.2.2 hs;rw[z.1,z.2.1,z.2.2];rfl
 |false=>
  rw[hv]at vw;have q:=DU _ _ _ _ _ _ _ _ _ _ _ vw;rw[hv,jj]at N2;rw[hv]at xr;refine jB (Wi:=[]) (cs:=[]) hn h2 iV gV h9 I hl ⟨dt,rf,aE,tw,xr,N2,T2,hp,F_⟩ vo hw (λ_ _ A=>ek A) (λ_ _ A=>LX A) (λbo iq c aA A wc vq l_ hc Qh=>?_) (xt t t') (λhs=>by rw[hs]at q;cases q.2);exact⟨bo,[],by rw[ej];exact aS (TB.loc wc) (y_ (n:=57) (A.get iV ∅) (A.get gV ∅) l_ hc (f84A d.ok.key d'.ok.key) (f85A d'.ok.key) q.1),.refl⟩
end
end
section
variable{ls:Ls}{aa ay:List D}{pm:List MO}{tm:List TO}{t:az}{i:Nat}
theorem JQ(I:cu aa ay)(hi:i<2):0<=bN i/\bN i<900000/\aa[(bN i).toNat]?=some (.tup [.int 10,.int i]):=by have h:=(xd I hi).1;exact⟨h.nn,h.lt,h.at_⟩
theorem Qm{p':Nat}{mv o' l9:Int}{qh:List Int}(hi:i<2)(d:t.Dr)(hn:ls.length=26)(h2:ls[2]?= ~~~(.ax 0))(iV:ls[11]?= ~~~(.d (oD i)))(gV:ls[12]?= ~~~(.d t.d))(H9:ls[13]?= ~~~(.d (.int (bN i))))(LW:ls[14]?= ~~~(.d (.int mv)))
  (T:ah pm aa ay) (h9:9<=pm.length) (I:cu aa ay) (hl:aa.length<=500000) (L':jv aa t p' mv o' l9 qh):
  ∃bo aA j rf,execs (aH 59) gm ls ⟨pm,tm⟩=some (.next,bo,⟨aA,tm++j⟩)/\d_ gw ls bo/\ah aA rf ay/\cu rf ay/\rf.length<=aa.length+10/\9<=aA.length:=by
 obtain⟨cm,ec,Wm⟩:=Gs hi d;have so:=jA (a:=7+i) (b:=t.key) (.inl ⟨by omega,d.ok.key⟩);have vw:=lawB hi d;have RN:=λaE=>oK (aE:=aE) T h9;have TR:=(RN d7).2;obtain⟨dt,rf,aE,tw,e51,N2,T2,hp,F_⟩:=VE I hl hi L' d.ok TR λaE=>(RN aE).1;have pr:=JQ I hi;have g2:(ls.set 15 (some (.ax (pm.length+1))))[2]?= ~~~(.ax 0):=by rw[bq ∅];exact h2
 have za:(ls.set 15 (some (.ax (pm.length+1))))[12]?= ~~~(.d t.d):=by rw[bq ∅];exact gV
 have Ql:(ls.set 15 (some (.ax (pm.length+1))))[13]?= ~~~(.d (.int (bN i))):=by rw[bq ∅];exact H9
 have Wn:(ls.set 15 (some (.ax (pm.length+1))))[14]?= ~~~(.d (.int mv)):=by rw[bq ∅];exact LW
 have Wo:(ls.set 15 (some (.ax (pm.length+1))))[15]?= ~~~(.ax (pm.length+1)):=by rw[dz,if_pos rfl,if_pos ()]
 have Wq:=rK (X:=aH 59) (tm:=tm) TR g2 Ql pr.1 pr.2.1 pr.2.2;have r14:=rK (X:=aH 59) (tm:=tm) TR g2 Wn L'.at_.1 (L'.at_.lt ()) L'.at_.2;have xr:exec (aH 59) GA (ls.set 15 (some (.ax (pm.length+1)))) ⟨hY pm,tm⟩=some (.next,(ls.set 15 (some (.ax (pm.length+1)))).set 16 (some (.d (.bool (jx i t)))),⟨dt,tm⟩):=
  aS (LV za) (xe (r:=(_,_)) (bC (b_ (au (ak Wo) (au (ak Ql) (au Wq (au r14 bp)))) (bX rfl e51))))
 have ek:∀{bo σ},d_ gw ls bo->eval (aH 59) (eK 11) bo σ=some (.d (.int (cK (7+i))),σ):=λA=>Wk (A.get iV ∅);have LX:∀{bo σ},d_ gw ls bo->eval (aH 59) (eK 12) bo σ=some (.d (.int (cK t.key)),σ):=λA=>JP d.ok.key (A.get gV ∅);have hw:∀pm,∀w∈bY (7+i) t.key,rn 59 82 [.d (oD i),.d (bA w)] pm []=some (.d (f_ (DK (7+i) w)),pm,[])/\rn 59 82 [.d t.d,.d (bA w)] pm []=some (.d (f_ (jy t w)),pm,[])/\(jy t w).length<=100:=λpm w hw=>
  ⟨(LU hi (o7 so hw).1 pm).1,AK d.ok.key (o7 so hw).2 pm⟩
 unfold Jx at vw;cases hv:jx i t with
 |true=>
  rw[hv,lV]at vw;have q:=DV _ _ _ _ _ _ _ _ vw;rw[hv,lV,ec]at N2;rw[hv]at xr;refine jB (cs:=o6 (Sn (eg i t) t.opt t.ro) 3++(o6 (Sm (eg i t) (t.key==i) t.ro) 4++o6 (So (eg i t) (t.key==i) t.opt) 5)) hn h2 iV gV h9 I hl ⟨dt,rf,aE,tw,xr,N2,T2,hp,F_⟩ Wm hw (λ_ _ A=>ek A) (λ_ _ A=>LX A) (λbo iq c aA A wc vq l_ hc Qh=>?_) (nJ i t).1 (λhs=>nomatch hs);obtain⟨H7,H8,j,e⟩:=Gx (n:=58) (pm:=aA) (gk:=5) (cb:=decide (i<2)&&(t.mask==0||decide (1<t.key))) (by have:=A.1;omega) (A.get gV ∅) vq l_ hc ()
   (λf hf=>by
    have hm:=jH.mpr hf;refine AJ (f3:=FB i t 3) (f4:=FB i t 4) (lR:=FB i t 11) (.inr rfl) q.2.1 q.2.2.1 q.2.2.2.1 ?_;rcases AD hf with e|e|e|e<;>subst e
    ·have:FB i t 0=true:=hm;rw[q.1]at this;cases this
    ·exact .inl ⟨rfl,hm⟩
    ·exact .inr (.inl ⟨rfl,hm⟩)
    ·exact .inr (.inr ⟨rfl,hm⟩))
   (λzc σ ag=>Qj (ag 11 _ ∅ (A.get iV ∅)))
   (λzc σ ag=>TB.and (TB.cmp (EB.ltN (JK (ag 11 _ ∅ (A.get iV ∅))) tj)) λ_=>TB.ite (y:=true) (TB.cmp (EB.EP (o5 (ag 11 _ ∅ (A.get iV ∅))) d9)) (λh=>nomatch h) (λ_=>TB.or (TB.cmp (EB.j_ (JI (ag 12 _ ∅ (A.get gV ∅))) y8)) (TB.cmp (EB.EP (jY (ag 12 _ ∅ (A.get gV ∅))) d9))))
   (λYz=>by rw[bx]at Yz;have z:=q.2.2.2.2 Yz.2;rw[z.1,z.2.1,z.2.2,vu,eI];rfl)
  refine⟨_,j,bI (TB.loc wc) e,?_⟩;exact(d_.set ∅).trans (d_.set ∅)
 |false=>
  rw[hv,jj,pY]at vw;rw[hv,jj]at N2
  replace xr:=hv▸xr
  refine jB (Wi:=[]) (cs:=[]) hn h2 iV gV h9 I hl ⟨dt,rf,aE,tw,xr,N2,T2,hp,F_⟩ vo hw (λ_ _ A=>ek A) (λ_ _ A=>LX A) (λbo iq c aA A wc vq l_ hc Qh=>?_) (nJ i t).1 (λhs=>nomatch hs);exact⟨bo,[],by rw[ej];exact aS (TB.loc wc) (y_ (n:=57) (A.get iV ∅) (A.get gV ∅) l_ hc (f84B d.ok.key hi) (f85B d.ok.key) vw),.refl⟩
theorem Qn{p:Nat}{num o tp:Int}{ae:List Int}(hi:i<2)(d:t.Dr)(hn:ls.length=26)(h2:ls[2]?= ~~~(.ax 0))(iV:ls[11]?= ~~~(.d t.d))(gV:ls[12]?= ~~~(.d (oD i)))(H9:ls[13]?= ~~~(.d (.int num)))(LW:ls[14]?= ~~~(.d (.int (bN i))))
  (T:ah pm aa ay) (h9:9<=pm.length) (I:cu aa ay) (hl:aa.length<=500000) (L:jv aa t p num o tp ae):
  ∃bo aA j rf,execs (aH 59) gm ls ⟨pm,tm⟩=some (.next,bo,⟨aA,tm++j⟩)/\d_ gw ls bo/\ah aA rf ay/\cu rf ay/\rf.length<=aa.length+10/\9<=aA.length:=by
 obtain⟨cm,ec,Wm⟩:=Gu d;have so:=jA (a:=t.key) (b:=7+i) (.inr ⟨d.ok.key,()⟩);have vw:=lawC hi d;have RN:=λaE=>oK (aE:=aE) T h9;have TR:=(RN d7).2;obtain⟨dt,rf,aE,tw,e49,N2,T2,hp,F_⟩:=VF I hl hi L d.ok TR λaE=>(RN aE).1;have g2:(ls.set 15 (some (.ax (pm.length+1))))[2]?= ~~~(.ax 0):=by rw[bq ∅];exact h2
 have za:(ls.set 15 (some (.ax (pm.length+1))))[12]?= ~~~(.d (oD i)):=by rw[bq ∅];exact gV
 have Ql:(ls.set 15 (some (.ax (pm.length+1))))[13]?= ~~~(.d (.int num)):=by rw[bq ∅];exact H9
 have Wn:(ls.set 15 (some (.ax (pm.length+1))))[14]?= ~~~(.d (.int (bN i))):=by rw[bq ∅];exact LW
 have Wo:(ls.set 15 (some (.ax (pm.length+1))))[15]?= ~~~(.ax (pm.length+1)):=by rw[dz,if_pos rfl,if_pos ()]
 have Wq:=rK (X:=aH 59) (tm:=tm) TR g2 Ql L.at_.1 (L.at_.lt ()) L.at_.2;have xr:exec (aH 59) GA (ls.set 15 (some (.ax (pm.length+1)))) ⟨hY pm,tm⟩=some (.next,(ls.set 15 (some (.ax (pm.length+1)))).set 16 (some (.d (.bool (nF t i)))),⟨dt,tm⟩):=
  bI (Wl za) (xe (r:=(_,_)) (bC (b_ (au (ak Wo) (au (ak Wn) (au Wq bp))) (bX rfl e49))))
 have ek:∀{bo σ},d_ gw ls bo->eval (aH 59) (eK 11) bo σ=some (.d (.int (cK t.key)),σ):=λA=>JP d.ok.key (A.get iV ∅);have LX:∀{bo σ},d_ gw ls bo->eval (aH 59) (eK 12) bo σ=some (.d (.int (cK (7+i))),σ):=λA=>Wk (A.get gV ∅);have hw:∀pm,∀w∈bY t.key (7+i),rn 59 82 [.d t.d,.d (bA w)] pm []=some (.d (f_ (jy t w)),pm,[])/\rn 59 82 [.d (oD i),.d (bA w)] pm []=some (.d (f_ (DK (7+i) w)),pm,[])/\(DK (7+i) w).length<=100:=λpm w hw=>
  ⟨(AK d.ok.key (o7 so hw).1 pm).1,LU hi (o7 so hw).2 pm⟩
 unfold Jy at vw;cases hv:nF t i with
 |true=>
  rw[hv,lV]at vw;simp only[bx,pY,fg]at vw;rw[hv,lV,ec]at N2;rw[hv]at xr;refine jB (cs:=o6 (t.ro==1) 4++[15]) hn h2 iV gV h9 I hl ⟨dt,rf,aE,tw,xr,N2,T2,hp,F_⟩ Wm hw (λ_ _ A=>ek A) (λ_ _ A=>LX A) (λbo iq c aA A wc vq l_ hc Qh=>?_) (nJ i t).2 (λhs=>nomatch hs);obtain⟨H7,H8,j,e⟩:=Qf (n:=58) (pm:=aA) (gk:=11) (by have:=A.1;omega) (A.get gV ∅) vq l_ hc vw.1 vw.2.1 (λzc σ ag=>GB (ag 11 _ ∅ (A.get iV ∅)))
   (by have f4:(cP (jy t) (DK (7+i)) (bY t.key (7+i))).contains 4=(t.ro==1):=vw.2.2.symm;rw[vu,f4];cases (cP (jy t) (DK (7+i)) (bY t.key (7+i))).contains 3<;>cases (t.ro==1)<;>rfl)
  refine⟨_,j,bI (TB.loc wc) e,?_⟩;exact(d_.set ∅).trans (d_.set ∅)
 |false=>
  rw[hv,jj,pY]at vw;rw[hv,jj]at N2;rw[hv]at xr;refine jB (Wi:=[]) (cs:=[]) hn h2 iV gV h9 I hl ⟨dt,rf,aE,tw,xr,N2,T2,hp,F_⟩ vo hw (λ_ _ A=>ek A) (λ_ _ A=>LX A) (λbo iq c aA A wc vq l_ hc Qh=>?_) (nJ i t).2 (λhs=>nomatch hs);exact⟨bo,[],by rw[ej];exact aS (TB.loc wc) (y_ (n:=57) (Yw:=t.key==i) (Yx:=false) (A.get iV ∅) (A.get gV ∅) l_ hc (f84C hi) f85C (by rw[Bool.or_false];exact vw)),.refl⟩
end
def Qo(c:Nat):E:=match c with
 |0=> .bin .mul 3.0 'j'
 |1=> .bin .add (.bin .mul 3.0 'j') 1.0
 |_=> .bin .add (.bin .mul 3.0 'j') 2.0
def Qp:S:= .asg 10 (.call 75 #['b',(Qo 0)])
def Qq:S:= .asg 11 (.call 77 #[.call 75 #['b',(Qo 1)]])
def Qr:S:= .asg 12 (.call 77 #[.call 75 #['b',(Qo 2)]])
def JR(c:Int):E:= .cmp .eq (.bin .mod (.bin .fdiv 'k' (.lit (.int c))) 2.0) 1.0
def s4S:S:= .ite (JR 4) #[.asg 12 (.call 76 #[.sub 'm' 0.0,.sub 'm' 1.0,.sub 'm' 2.0,.sub 'l' 3.0,.sub 'l' 4.0])] .nil
def s8S:S:= .ite (JR 8) #[.asg 12 (.call 76 #[.sub 'l' 0.0,.sub 'm' 1.0,.sub 'm' 2.0,.sub 'm' 3.0,.sub 'm' 4.0])] .nil
def GC:E:= .tup #[.bin .mod (.bin .fdiv 'k' 16.0) 2.0]
def Wr:S:= .ite (.cmp .eq (.bin .mod 'k' 4.0) 2.0) #[.asg 11 GC] .nil
def Su:S:= .ite (.cmp .eq (.bin .mod 'k' 4.0) 3.0) #[.asg 12 GC] .nil
section
variable{ls:Ls}{pm:List MO}{tm:List TO}{a vx:Nat}{nums:List Nat}{n f:Nat}{t t':az}{X:Cx}{σ:PS}
theorem JS{sp:Spec}{x v:D}{l:List D}{aA:List MO}(hl:tm[a]?=some (.list l))(h:sp [.aI 0,.d x] pm [.list l]=some (.d v,aA,[.list l])):cJ sp [.aI a,.d x] ⟨pm,tm⟩=some (.d v,⟨aA,tm⟩):=dn rfl hl rfl h (set_same hl)
theorem JT{sp:Spec}{x y v:D}{l:List D}{aA:List MO}(hl:tm[a]?=some (.list l))(h:sp [.ax 0,.aI 0,.d x,.d y] pm [.list l]=some (.d v,aA,[.list l])):cJ sp [.ax 0,.aI a,.d x,.d y] ⟨pm,tm⟩=some (.d v,⟨aA,tm⟩):=dn rfl hl rfl h (set_same hl)
theorem Wt{c:Nat}(hc:c<3)(xu:vx<=10)(h9:ls[9]?= ~~~(.d (.int vx))):eval X (Qo c) ls σ=some (.d (.int (3*vx+c:Nat)),σ):=by
 have e0:eval X (.bin .mul 3.0 'j') ls σ=some (.d (.int (3*vx:Nat)),σ):=by refine dC aG (ak h9) ?_;rw[tW ∅ (qH ()),Int.natCast_mul];rfl
 have:c=0\/c=1\/c=2:=();rcases this with e|e|e<;>subst e
 ·exact e0
 ·exact dC e0 d9 rfl
 ·exact dC e0 tj rfl
theorem vy{c:Nat}(hc:c<3)(xu:vx<=10)(h1:ls[1]?= ~~~(.aI a))(h9:ls[9]?= ~~~(.d (.int vx)))(ha:tm[a]?=some (.list (nums.map λ(x:Nat)=> .int x)))(hn:0<nums.length)(DW:nums.length<=9):
  eval (aH (n+1)) (.call 75 #['b',(Qo c)]) ls ⟨pm,tm⟩=some (.d (.int (kK nums (3*vx+c):Nat)),⟨pm,tm⟩):=
 b_ (au (ak h1) (au (Wt hc xu h9) bp)) (JS ha (f75 hn DW ()))
theorem o8{e:E}{x c:Nat}(hc:0<c)(h:eval X e ls σ=some (.d (.int x),σ)){b:E}(hb:eval X b ls σ=some (.d (.int c),σ)):eval X (.bin .mod e b) ls σ=some (.d (.int (x%c:Nat)),σ):=
 dC h hb (o3 hc)
theorem vz{e:E}{x c:Nat}(hc:0<c)(hc':c<1000)(h:eval X e ls σ=some (.d (.int x),σ)){b:E}(hb:eval X b ls σ=some (.d (.int c),σ)):eval X (.bin .fdiv e b) ls σ=some (.d (.int (x/c:Nat)),σ):=
 dC h hb (o4 hc ())
theorem lit8:eval X 8.0 ls σ=some (.d (.int (8:Nat)),σ):=aG
theorem Wu:eval X 16.0 ls σ=some (.d (.int (16:Nat)),σ):=aG
theorem JU(h:ls[10]?= ~~~(.d (.int f))):TB X ls σ (JR 4) (f/4%2==1):=TB.cmp (EB.j_ (o8 ∅ (vz ∅ ∅ (ak h) JL) tj) d9)
theorem JV(h:ls[10]?= ~~~(.d (.int f))):TB X ls σ (JR 8) (f/8%2==1):=TB.cmp (EB.j_ (o8 ∅ (vz ∅ ∅ (ak h) lit8) tj) d9)
theorem AL(h:ls[10]?= ~~~(.d (.int f))):eval X GC ls σ=some (.d (oD (f/16%2)),σ):=q9 (au (o8 ∅ (vz ∅ ∅ (ak h) Wu) tj) bp) rfl rfl
theorem DX(xu:vx<=10)(hlen:ls.length=26)(h1:ls[1]?= ~~~(.aI a))(h9:ls[9]?= ~~~(.d (.int vx)))(ha:tm[a]?=some (.list (nums.map λ(x:Nat)=> .int x)))(hn:0<nums.length)(DW:nums.length<=9)(r:Ss):
  ∃bo f t t',execs (aH (n+2)) (.cons Qp (.cons Qq (.cons Qr (.cons s4S (.cons s8S r))))) ls ⟨pm,tm⟩=execs (aH (n+2)) r bo ⟨pm,tm⟩/\d_ [10,11,12] ls bo/\bo[10]?= ~~~(.d (.int (f:Nat)))/\bo[11]?= ~~~(.d (az.d t))/\bo[12]?= ~~~(.d (az.d t'))/\t.Dr/\t'.Dr:=by
 have O5:=vy (n:=n+1) (pm:=pm) (c:=0) ∅ xu h1 h9 ha hn DW;generalize hf:kK nums (3*vx+0)=f at O5;let YA:=ls.set 10 (some (.d (.int f)));have YB:d_ [10,11,12] ls YA:=d_.set ∅;have Ag:eval (aH (n+2)) (.call 77 #[.call 75 #['b',(Qo 1)]]) YA ⟨pm,tm⟩=some (.d (rH (kK nums (3*vx+1))).d,⟨pm,tm⟩):=
  b_ (au (vy (n:=n+1) (pm:=pm) (c:=1) ∅ xu (YB.get h1 ∅) (YB.get h9 ∅) ha hn DW) bp) (bX rfl (f77 (n:=n)))
 have d1:=AF (kK nums (3*vx+1));generalize rH (kK nums (3*vx+1))=t at Ag d1;let Wv:=YA.set 11 (some (.d t.d));have YC:d_ [10,11,12] ls Wv:=YB.trans (d_.set ∅);have LR:eval (aH (n+2)) (.call 77 #[.call 75 #['b',(Qo 2)]]) Wv ⟨pm,tm⟩=some (.d (rH (kK nums (3*vx+2))).d,⟨pm,tm⟩):=
  b_ (au (vy (n:=n+1) (pm:=pm) (c:=2) ∅ xu (YC.get h1 ∅) (YC.get h9 ∅) ha hn DW) bp) (bX rfl (f77 (n:=n)))
 have d2:=AF (kK nums (3*vx+2));generalize rH (kK nums (3*vx+2))=t2 at LR d2;let DY:=Wv.set 12 (some (.d t2.d));have A12:d_ [10,11,12] ls DY:=YC.trans (d_.set ∅);have Y8:DY.length=26:=by rw[A12.1];exact hlen
 have Ww:DY[10]?= ~~~(.d (.int f)):=by simp only[DY,Wv,YA];rw[bq ∅,bq ∅,dz,if_pos rfl,if_pos ()]
 have JN:DY[11]?= ~~~(.d t.d):=by simp only[DY,Wv];rw[bq ∅,dz,if_pos rfl,if_pos (by rw[YB.1];omega)]
 have za:DY[12]?= ~~~(.d t2.d):=by simp only[DY];rw[dz,if_pos rfl,if_pos (by rw[YC.1];omega)]
 have st4:∃ls4 t4,exec (aH (n+2)) s4S DY ⟨pm,tm⟩=some (.next,ls4,⟨pm,tm⟩)/\d_ [12] DY ls4/\ls4[12]?= ~~~(.d (az.d t4))/\t4.Dr:=by
  have tb:=JU (X:=aH (n+2)) (σ:=⟨pm,tm⟩) Ww;cases q:(f/4%2==1)with
  |false=>rw[q]at tb;exact⟨DY,t2,aS tb aP,.refl,za,d2⟩
  |true=>
   rw[q]at tb;have ec:eval (aH (n+2)) (.call 76 #[.sub 'm' 0.0,.sub 'm' 1.0,.sub 'm' 2.0,.sub 'l' 3.0,.sub 'l' 4.0]) DY ⟨pm,tm⟩=some (.d (pK t2.key t2.opt t2.ro t.mask t.mem).d,⟨pm,tm⟩):=
    b_ (au (jY za) (au (y7 za) (au (V7 za) (au (JI JN) (au (JJ JN) bp))))) (bX rfl (f76 (n:=n+1)))
   exact⟨DY.set 12 (some (.d (pK t2.key t2.opt t2.ro t.mask t.mem).d)),_,bI tb (xe (r:=(_,_)) (bC ec)),d_.set ∅,by rw[dz,if_pos rfl,if_pos ()],vm d2.ok.key d2.ok.opt d2.ok.ro d1.ok.mask⟩
 obtain⟨l4,t4,e4,A4,g4,d4⟩:=st4;have n4:l4.length=26:=by rw[A4.1];exact Y8
 have YD:∃ls8 t8,exec (aH (n+2)) s8S l4 ⟨pm,tm⟩=some (.next,ls8,⟨pm,tm⟩)/\d_ [12] l4 ls8/\ls8[12]?= ~~~(.d (az.d t8))/\t8.Dr:=by
  have tb:=JV (X:=aH (n+2)) (σ:=⟨pm,tm⟩) (A4.get Ww ∅);have lh:=A4.get JN ∅;cases q:(f/8%2==1)with
  |false=>rw[q]at tb;exact⟨l4,t4,aS tb aP,.refl,g4,d4⟩
  |true=>
   rw[q]at tb;have ec:eval (aH (n+2)) (.call 76 #[.sub 'l' 0.0,.sub 'm' 1.0,.sub 'm' 2.0,.sub 'm' 3.0,.sub 'm' 4.0]) l4 ⟨pm,tm⟩=some (.d (pK t.key t4.opt t4.ro t4.mask t4.mem).d,⟨pm,tm⟩):=
    b_ (au (jY lh) (au (y7 g4) (au (V7 g4) (au (JI g4) (au (JJ g4) bp))))) (bX rfl (f76 (n:=n+1)))
   exact⟨l4.set 12 (some (.d (pK t.key t4.opt t4.ro t4.mask t4.mem).d)),_,bI tb (xe (r:=(_,_)) (bC ec)),d_.set ∅,by rw[dz,if_pos rfl,if_pos ()],vm d1.ok.key d4.ok.opt d4.ok.ro d4.ok.mask⟩
 obtain⟨l8,t8,e8,A8,g8,d8⟩:=YD;have up:∀{x y:Ls},d_ [12] x y->d_ [10,11,12] x y:=λA=>⟨A.1,λi hi=>A.2 i λh=>hi (by rw[jI.mp h];decide)⟩;refine⟨l8,f,t,t8,?_,A12.trans ((up A4).trans (up A8)),A8.get (A4.get Ww ∅) ∅,A8.get (A4.get JN ∅) ∅,g8,d1,d8⟩;unfold Qp Qq Qr;rw[av (bC O5),av (bC Ag),av (bC LR),av e4,av e8]
end
def GD(i:Nat):E:= .ite (.cmp .eq (.bi .len (.loc i)) 1.0) (.sub (.tup #['d','e']) (.sub (.loc i) 0.0)) (.call 78 #['c','i',.tup #['d','e'],.loc i])
def JW:S:= .asg 13 (GD 11)
def DZ:S:= .asg 14 (GD 12)
def JX:Ss:= .cons Qp (.cons Qq (.cons Qr (.cons s4S (.cons s8S (.cons Wr (.cons Su (.cons JW (.cons DZ gm))))))))
section
variable{ls:Ls}{pm:List MO}{tm:List TO}{kb i j:Nat}{t t':az}{aa ay:List D}{f:Nat}
theorem LY{X:Cx}{σ:PS}(hj:j<2)(h3:ls[3]?= ~~~(.d (.int 16)))(h4:ls[4]?= ~~~(.d (.int 17)))(hi:ls[i]?= ~~~(.d (oD j))):eval X (GD i) ls σ=some (.d (.int (bN j)),σ):=by refine iY (TB.cmp (EB.j_ (o5 hi) d9)) (cY (DN (ak h3) (ak h4)) (JK hi) ?_);have:j=0\/j=1:=();rcases this with e|e<;>subst e<;>rfl
theorem AM(d:t.Dr)(h2:ls[2]?= ~~~(.ax 0))(h3:ls[3]?= ~~~(.d (.int 16)))(h4:ls[4]?= ~~~(.d (.int 17)))(h8:ls[8]?= ~~~(.aI kb))(hk:tm[kb]?=some (.list (fT.map .int)))(hi:ls[i]?= ~~~(.d t.d))
  (T:ah pm aa ay) (I:cu aa ay) (hl:aa.length<=500000) (h5:5<=ay.length) (hb:ay.length<=1000):
  ∃aA e_ Qs num o tp ae,eval (aH 59) (GD i) ls ⟨pm,tm⟩=some (.d (.int num),⟨aA,tm⟩)/\ah aA e_ Qs/\cu e_ Qs/\aa<+:e_/\e_.length<=aa.length+12/\Qs.length=ay.length+1/\jv e_ t ay.length num o tp ae/\aA.length=pm.length:=by
 obtain⟨⟨hA,nd,ne⟩,⟨o,tp,ae,L⟩,R,hp,hlen⟩:=Pq I d.ok () h5 hb;obtain⟨aA,e,T',N⟩:=f78 53 T d.ok.key () () hA nd ne;refine⟨aA,_,_,_,o,tp,ae,?_,T',⟨R,I.pre.trans hp,I.Pn.trans (List.prefix_append _ _)⟩,hp,hlen,by simp,L,N.len⟩;exact ig (TB.cmp (EB.j_ (mw hi) d9)) (b_ (au (ak h2) (au (ak h8) (au (DN (ak h3) (ak h4)) (au (ak hi) bp)))) (JT hk e))
def Wx:List Nat:=[11,12]
theorem D1(hlen:ls.length=26)(H_:ls[10]?= ~~~(.d (.int f)))(iV:ls[11]?= ~~~(.d t.d))(gV:ls[12]?= ~~~(.d t'.d))(X:Cx)(σ:PS)(r:Ss):
  ∃bo,execs X (.cons Wr (.cons Su r)) ls σ=execs X r bo σ/\d_ Wx ls bo/\((bo[11]?= ~~~(.d t.d)/\bo[12]?= ~~~(.d t'.d))\/(∃i,i<2/\bo[11]?= ~~~(.d (oD i))/\bo[12]?= ~~~(.d t'.d))\/(∃i,i<2/\bo[11]?= ~~~(.d t.d)/\bo[12]?= ~~~(.d (oD i)))):=by
 have LZ:∀{ls:Ls},eval X 3.0 ls σ=some (.d (.int (3:Nat)),σ):=aG;have c2:=TB.cmp (EB.j_ (X:=X) (σ:=σ) (o8 ∅ (ak H_) JL) tj);have hi:f/16%2<2:=Nat.mod_lt _ ∅;cases q2:(f%4==2)with
 |true=>
  rw[q2]at c2;let l1:=ls.set 11 (some (.d (oD (f/16%2))));have e2:exec X Wr ls σ=some (.next,l1,σ):=bI c2 (xe (r:=(_,_)) (bC (AL H_)));have A:d_ Wx ls l1:=d_.set ∅;have c3:=TB.cmp (EB.j_ (X:=X) (σ:=σ) (o8 ∅ (ak (A.get H_ ∅)) JL) LZ);have q3:(f%4==3)=false:=by rw[cj q2];rfl
  rw[q3]at c3;have e3:exec X Su l1 σ=some (.next,l1,σ):=aS c3 aP;refine⟨l1,by rw[av e2,av e3],A,.inr (.inl ⟨_,hi,?_,?_⟩)⟩
  ·simp only[l1];rw[dz,if_pos rfl,if_pos ()]
  ·simp only[l1];rw[bq ∅];exact gV
 |false=>
  rw[q2]at c2;have e2:exec X Wr ls σ=some (.next,ls,σ):=aS c2 aP;have c3:=TB.cmp (EB.j_ (X:=X) (σ:=σ) (o8 ∅ (ak H_) JL) LZ);cases q3:(f%4==3)with
  |true=>
   rw[q3]at c3;let l1:=ls.set 12 (some (.d (oD (f/16%2))));have e3:exec X Su ls σ=some (.next,l1,σ):=bI c3 (xe (r:=(_,_)) (bC (AL H_)));refine⟨l1,by rw[av e2,av e3],d_.set ∅,.inr (.inr ⟨_,hi,?_,?_⟩)⟩
   ·simp only[l1];rw[bq ∅];exact iV
   ·simp only[l1];rw[dz,if_pos rfl,if_pos ()]
  |false=>
   rw[q3]at c3;have e3:exec X Su ls σ=some (.next,ls,σ):=aS c3 aP;exact⟨ls,by rw[av e2,av e3],.refl,.inl ⟨iV,gV⟩⟩
structure nK (k a kb:Nat) (nums:List Nat) (ls:Ls) (pm:List MO) (tm:List TO):Prop where
 len:ls.length=26
 l1:ls[1]?= ~~~(.aI a)
 l2:ls[2]?= ~~~(.ax 0)
 l3:ls[3]?= ~~~(.d (.int 16))
 l4:ls[4]?= ~~~(.d (.int 17))
 l8:ls[8]?= ~~~(.aI kb)
 ta:tm[a]?=some (.list (nums.map λ(x:Nat)=> .int x))
 tk:tm[kb]?=some (.list (fT.map .int))
 p9:9<=pm.length
 ex:∃aa ay,ah pm aa ay/\cu aa ay/\aa.length<=100+100*k/\5<=ay.length/\ay.length<=5+2*k
theorem JY{k a kb vx:Nat}{nums:List Nat}(S:nK k a kb nums ls pm tm)(hk:k<=10)(xu:vx<=10)(h9:ls[9]?= ~~~(.d (.int vx)))(hn:0<nums.length)(DW:nums.length<=9):
  ∃bo aA iq,execs (aH 59) JX ls ⟨pm,tm⟩=some (.next,bo,⟨aA,iq⟩)/\nK (k+1) a kb nums bo aA iq:=by
 obtain⟨aa,ay,T,I,hr,h5,hb⟩:=S.ex;obtain⟨l1,f,t,t',e1,A1,Ww,JN,za,d,d'⟩:=DX (n:=57) (pm:=pm) xu S.len S.l1 h9 S.ta hn DW (.cons Wr (.cons Su (.cons JW (.cons DZ gm))));obtain⟨l2,e2,A2,Wy⟩:=D1 (by rw[A1.1];exact S.len) Ww JN za (aH 59) ⟨pm,tm⟩ (.cons JW (.cons DZ gm));have Qt:∀{s:List Nat} {x y:Ls},(∀i∈s,i∈[10,11,12,13,14,15,16,17,18,19,20,21])->d_ s x y->d_ [10,11,12,13,14,15,16,17,18,19,20,21] x y:=λh A=>⟨A.1,λi hi=>A.2 i λz=>hi (h i z)⟩;have B2:d_ [10,11,12,13,14,15,16,17,18,19,20,21] ls l2:=(Qt ∅ A1).trans (Qt ∅ A2);have n2:l2.length=26:=by rw[B2.1];exact S.len
 have k2:=B2.get S.l2 ∅;have k3:=B2.get S.l3 ∅;have k4:=B2.get S.l4 ∅;have k8:=B2.get S.l8 ∅;have fin:∀{bo:Ls} {aA:List MO} {j:List TO} {l4:Ls} {rf bd:List D},d_ [10,11,12,13,14,15,16,17,18,19,20,21] l2 l4->d_ gw l4 bo->ah aA rf bd->cu rf bd->rf.length<=aa.length+40->5<=bd.length->bd.length<=ay.length+2->9<=aA.length->nK (k+1) a kb nums bo aA (tm++j):=λ{bo aA j l4 rf bd} A4 A5 T' I' LA h5' hb' h9'=>by have B:=B2.trans (A4.trans (Qt ∅ A5));exact⟨by rw[B.1];exact S.len,B.get S.l1 ∅,B.get S.l2 ∅,B.get S.l3 ∅,B.get S.l4 ∅,B.get S.l8 ∅,mx S.ta,mx S.tk,h9',rf,bd,T',I',(),h5',()⟩
 have O2:∀{v:PV} {σ aN:PS} {r:Ss},eval (aH 59) (GD 11) l2 σ=some (v,aN)->execs (aH 59) (.cons JW r) l2 σ=execs (aH 59) r (l2.set 13 (some v)) aN:=λh=>av (bC h);unfold JX;rw[e1,e2];rcases Wy with⟨L5,L6⟩|⟨i,hi,L5,L6⟩|⟨i,hi,L5,L6⟩
 ·obtain⟨iZ,Wz,bds3,num,o,tp,ae,e3,T3,I3,p3,Se,hb3,L3,n3⟩:=AM d k2 k3 k4 k8 S.tk L5 T I () h5 ();let l3:=l2.set 13 (some (.d (.int num)));have A3:d_ [10,11,12,13,14,15,16,17,18,19,20,21] l2 l3:=d_.set ∅;have g:∀{i:Nat} {v:Option PV},i≠13->l2[i]?=some v->l3[i]?=some v:=λhi h=>by simp only[l3];rw[bq λe=>hi e.symm];exact h
  obtain⟨rg,WA,bds4,mv,o',l9,qh,e4,T4,I4,p4,hl4,hb4,L4,n4⟩:=AM d' (g ∅ k2) (g ∅ k3) (g ∅ k4) (g ∅ k8) S.tk (g ∅ L6) T3 I3 () () ();let l4:=l3.set 14 (some (.d (.int mv)));have A4:d_ [10,11,12,13,14,15,16,17,18,19,20,21] l2 l4:=A3.trans (d_.set ∅);have g':∀{i:Nat} {v:Option PV},i≠14->l3[i]?=some v->l4[i]?=some v:=λhi h=>by simp only[l4];rw[bq λe=>hi e.symm];exact h
  have WB:l3[13]?= ~~~(.d (.int num)):=by simp only[l3];rw[dz,if_pos rfl,if_pos ()]
  have WC:l4[14]?= ~~~(.d (.int mv)):=by simp only[l4];rw[dz,if_pos rfl,if_pos (by rw[A3.1];omega)]
  have p9:=S.p9;obtain⟨bo,aA,j,rf,e5,A5,T5,I5,hl5,WD⟩:=Qk (tm:=tm) d d' (by rw[A4.1];exact n2) (g' ∅ (g ∅ k2)) (g' ∅ (g ∅ L5)) (g' ∅ (g ∅ L6)) (g' ∅ WB) WC T4 () I4 () (L3.pre p4) L4 ();refine⟨bo,aA,tm++j,?_,fin A4 A5 T5 I5 () () () WD⟩;rw[O2 e3,show execs (aH 59) (.cons DZ gm) (l2.set 13 (some (.d (.int num)))) ⟨iZ,tm⟩=execs (aH 59) gm l4 ⟨rg,tm⟩from av (bC e4),e5]
 ·have e3:=LY (X:=aH 59) (σ:=⟨pm,tm⟩) hi k3 k4 L5;let l3:=l2.set 13 (some (.d (.int (bN i))));have A3:d_ [10,11,12,13,14,15,16,17,18,19,20,21] l2 l3:=d_.set ∅;have g:∀{i:Nat} {v:Option PV},i≠13->l2[i]?=some v->l3[i]?=some v:=λhi h=>by simp only[l3];rw[bq λe=>hi e.symm];exact h
  obtain⟨rg,WA,bds4,mv,o',l9,qh,e4,T4,I4,p4,hl4,hb4,L4,n4⟩:=AM d' (g ∅ k2) (g ∅ k3) (g ∅ k4) (g ∅ k8) S.tk (g ∅ L6) T I () h5 ();let l4:=l3.set 14 (some (.d (.int mv)));have A4:d_ [10,11,12,13,14,15,16,17,18,19,20,21] l2 l4:=A3.trans (d_.set ∅);have g':∀{i:Nat} {v:Option PV},i≠14->l3[i]?=some v->l4[i]?=some v:=λhi h=>by simp only[l4];rw[bq λe=>hi e.symm];exact h
  have WB:l3[13]?= ~~~(.d (.int (bN i))):=by simp only[l3];rw[dz,if_pos rfl,if_pos ()]
  have WC:l4[14]?= ~~~(.d (.int mv)):=by simp only[l4];rw[dz,if_pos rfl,if_pos (by rw[A3.1];omega)]
  have p9:=S.p9;obtain⟨bo,aA,j,rf,e5,A5,T5,I5,hl5,WD⟩:=Qm (tm:=tm) hi d' (by rw[A4.1];exact n2) (g' ∅ (g ∅ k2)) (g' ∅ (g ∅ L5)) (g' ∅ (g ∅ L6)) (g' ∅ WB) WC T4 () I4 () L4;refine⟨bo,aA,tm++j,?_,fin A4 A5 T5 I5 () () () WD⟩;rw[O2 e3,show execs (aH 59) (.cons DZ gm) (l2.set 13 (some (.d (.int (bN i))))) ⟨pm,tm⟩=execs (aH 59) gm l4 ⟨rg,tm⟩from av (bC e4),e5]
 ·obtain⟨iZ,Wz,bds3,num,o,tp,ae,e3,T3,I3,p3,Se,hb3,L3,n3⟩:=AM d k2 k3 k4 k8 S.tk L5 T I () h5 ();let l3:=l2.set 13 (some (.d (.int num)));have A3:d_ [10,11,12,13,14,15,16,17,18,19,20,21] l2 l3:=d_.set ∅;have g:∀{i:Nat} {v:Option PV},i≠13->l2[i]?=some v->l3[i]?=some v:=λhi h=>by simp only[l3];rw[bq λe=>hi e.symm];exact h
  have e4:=LY (X:=aH 59) (σ:=⟨iZ,tm⟩) hi (g ∅ k3) (g ∅ k4) (g ∅ L6);let l4:=l3.set 14 (some (.d (.int (bN i))));have A4:d_ [10,11,12,13,14,15,16,17,18,19,20,21] l2 l4:=A3.trans (d_.set ∅);have g':∀{i:Nat} {v:Option PV},i≠14->l3[i]?=some v->l4[i]?=some v:=λhi h=>by simp only[l4];rw[bq λe=>hi e.symm];exact h
  have WB:l3[13]?= ~~~(.d (.int num)):=by simp only[l3];rw[dz,if_pos rfl,if_pos ()]
  have WC:l4[14]?= ~~~(.d (.int (bN i))):=by simp only[l4];rw[dz,if_pos rfl,if_pos (by rw[A3.1];omega)]
  have p9:=S.p9;obtain⟨bo,aA,j,rf,e5,A5,T5,I5,hl5,WD⟩:=Qn (tm:=tm) hi d (by rw[A4.1];exact n2) (g' ∅ (g ∅ k2)) (g' ∅ (g ∅ L5)) (g' ∅ (g ∅ L6)) (g' ∅ WB) WC T3 () I3 () L3;refine⟨bo,aA,tm++j,?_,fin A4 A5 T5 I5 () () () WD⟩;rw[O2 e3,show execs (aH 59) (.cons DZ gm) (l2.set 13 (some (.d (.int num)))) ⟨iZ,tm⟩=execs (aH 59) gm l4 ⟨iZ,tm⟩from av (bC e4),e5]
end
def stA:S:= .asg 1 (.comp (.bin .mod 'z' 99991.0) 25 (.EH 'a' (.lit .none) 9.0) .nil)
def stB:S:= .ite (.cmp .eq (.bi .len 'b') 0.0) #[.asg 1 (.lst #[4.0])] .nil
def L7(s:List Nat)(b:E):E:= .call 5 #['c',.lit (.str s),b,.lit (.int (-1))]
def WG(e:E):E:= .aR 'c' 3 #[e]
def YE(i:Nat):E:=WG (.tup #[14.0,.loc i])
def YF(c:Nat):E:=WG (.tup #[3.0,.lit (.str [c]),0.0])
def fG(l:List Int):List Nat:=l.map λx=>(Int.fmod x 99991).toNat
section
variable{ls:Ls}{pm:List MO}{tm:List TO}{aa ay:List D}{i:Nat}
theorem tZ{X:Cx}{σ:PS}(h:25<ls.length):∀l:List Int,dm (λl s=>cx X .nil l s) (λl s=>eval X (.bin .mod 'z' 99991.0) l s) 25 (l.map .int) ls σ=some ((fG l).map (λ(x:Nat)=> .int x),σ)
 |[]=>rfl
 |x::l=>by
  have g:(ls.set 25 (some (.d (.int x))))[25]?= ~~~(.d (.int x)):=by rw[dz,if_pos rfl,if_pos h]
  have nn:0<=Int.fmod x 99991:=by rw[Int.fmod_eq_emod_of_nonneg _ ∅];exact Int.emod_nonneg _ ∅
  have e:eval X (.bin .mod 'z' 99991.0) (ls.set 25 (some (.d (.int x)))) σ=some (.d (.int ((Int.fmod x 99991).toNat:Nat)),σ):=by refine dC (ak g) aG ?_;rw[wg nn];rfl
  exact oB rfl e rfl (tZ h l)
theorem ze{α:Type}{l:List α}(h:l.length<=1000):fits l=true:=qQ ()
theorem JZ{X:Cx}{l:List Int}(hl:l.length<=63)(hn:ls.length=26)(h0:ls[0]?= ~~~(.d (.lst (l.map .int)))):∃x,exec X stA ls ⟨pm,[]⟩=some (.next,ls.set 1 (some (.aI 1)),⟨pm,[x,.list ((fG (l.take 9)).map λ(x:Nat)=> .int x)]⟩):=by
 have s9:small 9=true:=∅;have es:eval X (.EH 'a' (.lit .none) 9.0) ls ⟨pm,[]⟩=some (.aI 0,⟨pm,[.list ((l.take 9).map .int)]⟩):=by
  have sl:qV (l.map D.int) .none (.int 9)=some ((l.take 9).map .int):=by unfold qV;dsimp only;rw[s9,if_pos ∅];simp only[List.drop_zero,Nat.sub_zero,List.map_take];congr 1;rw[List.take_eq_take_iff];simp only[eT];show min (min 9 l.length) l.length=min 9 l.length;exact Nat.min_eq_left (Nat.min_le_right _ _)
  have q1:fits (l.map D.int)=true:=ze (by simp;omega);have q2:fits ((l.take 9).map D.int)=true:=ze (by simp;omega);refine IX (ak h0) aG aG ?_;show ai (PS.slK ⟨pm,[]⟩ (l.map .int)) (qV (l.map .int) .none (.int 9))=_;rw[sl];show dy (PS.sZ _ _) _=_;rw[q1];show dy _ (fits _)=_;rw[q2];rfl
 exact⟨.list ((l.take 9).map .int),bC (q_ es (fy:= .aI 0 (.list ((l.take 9).map .int))) rfl (tZ () _) (ze (by simp[fG];omega)) rfl)⟩
end
def YD:S:= .asg 8 (.lst #[(YE 3),(YE 4),'f',(L7 [74] 'f'),(L7 [76] 'h'),'h','g'])
def GF:S:= .gr 9 (.bi .range (.bin .fdiv (.bin .add (.bi .len 'b') 2.0) 3.0)) JX
def WH:Ss:=#[stA,stB,.asg 2 (.new 0 .nil),.asg 3 (L7 [84] (.lit (.int (-1)))),.asg 4 (L7 [85] 'd'),.asg 5 (L7 [75] (YE 3)),.asg 6 (YF 112),.asg 7 (.call 12 #['c',.lst #['g',(YF 113)]]),YD,GF,.ret (.lit (.bool true))]
theorem bd87:IK=WH:=by rfl
section
variable{ls:Ls}{pm:List MO}{tm:List TO}{a kb:Nat}{nums:List Nat}
theorem nK.put{k:Nat}(S:nK k a kb nums ls pm tm)(v:Option PV):nK k a kb nums (ls.set 9 v) pm tm:=by have A:d_ [9] ls (ls.set 9 v):=d_.set ∅;exact⟨by rw[A.1];exact S.len,A.get S.l1 ∅,A.get S.l2 ∅,A.get S.l3 ∅,A.get S.l4 ∅,A.get S.l8 ∅,S.ta,S.tk,S.p9,S.ex⟩
theorem xw(hn:0<nums.length)(DW:nums.length<=9):∀(l:List Nat) (k:Nat) (ls:Ls) (pm:List MO) (tm:List TO),nK k a kb nums ls pm tm->k+l.length<=10->(∀x∈l,x<=10)->
  ∃bo aA iq,dO (λl s=>execs (aH 59) JX l s) (kf 9) (l.map λ(i:Nat)=>D.int i) ls ⟨pm,tm⟩=some (.next,bo,⟨aA,iq⟩)
 |[],_,ls,pm,tm,_,_,_=>⟨ls,pm,tm,rfl⟩
 |x::l,k,ls,pm,tm,S,hk,hx=>by
  rw[fw]at hk;have g9:(ls.set 9 (some (.d (.int x))))[9]?= ~~~(.d (.int x)):=by rw[dz,if_pos rfl,if_pos (by rw[S.len];decide)]
  obtain⟨ls1,fR,qj,e1,S1⟩:=JY (S.put (some (.d (.int x)))) () (hx x (.head _)) g9 hn DW;obtain⟨EK,dt,nY,e2⟩:=xw hn DW l (k+1) ls1 fR qj S1 () λz hz=>hx z (.tail _ hz);refine⟨EK,dt,nY,?_⟩;rw[kg];exact fJ rfl e1 e2
def rM(r:Ss):Ss:= .cons (.asg 2 (.new 0 .nil)) (.cons (.asg 3 (L7 [84] (.lit (.int (-1))))) (.cons (.asg 4 (L7 [85] 'd')) (.cons (.asg 5 (L7 [75] (YE 3))) (.cons (.asg 6 (YF 112)) (.cons (.asg 7 (.call 12 #['c',.lst #['g',(YF 113)]])) (.cons YD r))))))
def lsS(d:Option PV)(a kb:Nat):Ls:=d::some (.aI a)::some (.ax 0)::some (.d (.int 16))::some (.d (.int 17))::some (.d (.int 19))::some (.d (.int 20))::some (.d (.int 22))::some (.aI kb)::List.replicate 17 none
def Qu:List MO:=match execs (aH 59) (rM .nil) (none::some (.aI 1)::List.replicate 24 none) ⟨[],[.dead,.dead]⟩with
 |some (_,_,σ)=>σ.pm
 |none=>[]
def liL:Option MO->List D
 |some (.list l)=>l
 |_=>[]
theorem Qv{d:Option PV}{x y:TO}{r:Ss}:execs (aH 59) (rM r) (d::some (.aI 1)::List.replicate 24 none) ⟨[],[x,y]⟩=execs (aH 59) r (lsS d 1 3) ⟨Qu,[x,y,.list [.int 20,.int 21],.list (fT.map .int)]⟩:=by kernel_rfl
theorem Qw{d:Option PV}{x y z:TO}{r:Ss}:execs (aH 59) (rM r) (d::some (.aI 2)::List.replicate 24 none) ⟨[],[x,y,z]⟩=execs (aH 59) r (lsS d 2 4) ⟨Qu,[x,y,z,.list [.int 20,.int 21],.list (fT.map .int)]⟩:=by kernel_rfl
theorem t5:cz du:=by
 have h:du.all (λr=>jP r&&keyOk r&&Nat.beq (cy r) 3)=true:=by decide+kernel
 have ok:∀r∈du,dD r:=by intro r hr;have:=bf.mp h r hr;simp only[bx]at this;exact⟨this.1.1,this.1.2,kh this.2⟩
 have hp:du.Pairwise λa b=>bc a b=false:=by decide+kernel
 exact⟨ok,hp.imp_of_mem λ{a b} ha hb h e=>by have:=(lz a b (ok a ha).1 (ok b hb).1).mpr e;rw[h]at this;cases this⟩
theorem tabS:ah Qu du w0:=⟨by kernel_rfl,by kernel_rfl,by kernel_rfl,by kernel_rfl,⟨liL Qu[5]?,by kernel_rfl,by decide+kernel⟩,⟨liL Qu[6]?,by kernel_rfl,by decide+kernel⟩,t5⟩
theorem lenS:Qu.length=9:=by kernel_rfl
theorem WI{d:Option PV}{nums:List Nat}(ta:tm[a]?=some (.list (nums.map λ(x:Nat)=> .int x)))(tk:tm[kb]?=some (.list (fT.map .int))):nK 0 a kb nums (lsS d a kb) Qu tm:=
 ⟨rfl,rfl,rfl,rfl,rfl,rfl,ta,tk,by rw[lenS];decide,du,w0,tabS,⟨t5,lK _,lK _⟩,∅,∅,∅⟩
theorem xx(S:nK 0 a kb nums ls pm tm)(hn:0<nums.length)(DW:nums.length<=9):∃iZ,ai (cX (mj [])) (execs (aH 59) #[GF,.ret (.lit (.bool true))] ls ⟨pm,tm⟩)=some (.d (.bool true),iZ,[]):=by
 have e1:=vp (X:=aH 59) (ls:=ls) (σ:=⟨pm,tm⟩) (ak S.l1) S.ta (by rw[eT];omega);rw[eT]at e1;have e3':eval (aH 59) 3.0 ls ⟨pm,tm⟩=some (.d (.int (3:Nat)),⟨pm,tm⟩):=aG;have hr:(decide ((0:Int)<=((nums.length+2)/3:Nat))&&decide ((((nums.length+2)/3:Nat):Int)<1000000))=true:=jJ.mpr ⟨ed (sT _),ed (pX.mpr (sU (Nat.div_le_self _ _) (sU (wi DW 2) ∅)))⟩;have er:eval (aH 59) (.bi .range (.bin .fdiv (.bin .add (.bi .len 'b') 2.0) 3.0)) ls ⟨pm,tm⟩=some (.d (.oy ((nums.length+2)/3:Nat)),⟨pm,tm⟩):=by
  refine uV (vz ∅ ∅ (dC (o:= .add) (r:=(.d (.int (nums.length+2:Nat)),⟨pm,tm⟩)) e1 tj rfl) e3') ?_
  rewrite [UN,hr];rfl
 have eo:dZ ⟨pm,tm⟩ (.d (.oy ((nums.length+2)/3:Nat)))=some ((List.range ((nums.length+2)/3)).map λ(i:Nat)=>D.int i,⟨pm,tm⟩,.none):=by rewrite [UO,hr];rfl
 obtain⟨ls3,iZ,Qe,eD⟩:=xw hn DW (List.range ((nums.length+2)/3)) 0 ls pm tm S (by simp;lia) (λx hx=>by have:=wj.mp hx;lia);exact⟨iZ,congrArg (ai (cX (mj []))) (sQ (uW er eo eD) (bS (fz aG)))⟩
theorem Qx:∀l:List Int,l.length<=63->∃pm ts,rn 60 87 [.d (.lst (l.map .int))] [] []=some (.d (.bool true),pm,ts):=by
 intro l hl;obtain⟨x,eA⟩:=JZ (X:=aH 59) (ls:=some (.d (.lst (l.map .int)))::List.replicate 25 none) (pm:=[]) hl rfl rfl;have ln:(fG (l.take 9)).length<=9:=by simp[fG];omega
 have el:=vp (X:=aH 59) (ls:=some (.d (.lst (l.map .int)))::some (.aI 1)::List.replicate 24 none) (σ:=⟨[],[x,.list ((fG (l.take 9)).map λ(x:Nat)=> .int x)]⟩) (m:=1) (l:=(fG (l.take 9)).map λ(x:Nat)=> .int x) (ak (i:=1) rfl) rfl (by rw[eT];omega);rw[eT]at el;have tb:=TB.cmp (EB.j_ el y8);have go:∀{ls:Ls} {tm:List TO},(∃pm,ai (cX (mj [])) (execs (aH 59) (rM #[GF,.ret (.lit (.bool true))]) ls ⟨[],tm⟩)=some (.d (.bool true),pm,[]))->exec (aH 59) stB (some (.d (.lst (l.map .int)))::some (.aI 1)::List.replicate 24 none) ⟨[],[x,.list ((fG (l.take 9)).map λ(x:Nat)=> .int x)]⟩=some (.next,ls,⟨[],tm⟩)->
   ∃pm ts,rn 60 87 [.d (.lst (l.map .int))] [] []=some (.d (.bool true),pm,ts):=λ⟨pm,e⟩ eB=>by
  refine⟨pm,[],(cG (some (.d (.lst (l.map .int)))::List.replicate 25 none) (show p8 87=some ⟨1,26,IK⟩from rfl) rfl rfl).trans ?_⟩;dsimp only;rw[bd87];exact(congrArg (ai (cX (mj []))) (sQ eA (sQ eB rfl))).trans e
 cases q:((fG (l.take 9)).length==0)with
 |true=>
  rw[q]at tb;refine go ?_ (bI tb (xe (r:=(some (.d (.lst (l.map .int)))::some (.aI 2)::List.replicate 24 none,_)) (bC (Qc aG))));show∃pm,ai (cX (mj [])) (execs (aH 59) (rM _) (_::some (.aI 2)::List.replicate 24 none) ⟨[],[_,_,.list ([4].map λ(x:Nat)=> .int x)]⟩)=_;rw[Qw];exact xx (WI rfl rfl) ∅ ∅
 |false=>
  rw[q]at tb;have:(fG (l.take 9)).length≠0:=by simpa using q
  refine go ?_ (aS tb aP);rw[Qv];exact xx (WI rfl rfl) () ln
end
theorem WJ:∀l:List Int,l.length<=63->∃pm ts,run pr 60 87 [.d (.lst (l.map .int))] [] []=some (.d (.bool true),pm,ts):=by have h:=Qx;unfold rn at h;exact h
end
end
section
open PySem PySem.W PyProof.Rows PySem.Calls
section
set_option maxRecDepth 512
variable{prog:Program}{w:World}{A:Around}{s:Shared}
section
set_option genCtorIdx true in
inductive Tag where
 |p (n:Nat)|d (n:Nat)|t (n:Nat)
 deriving DecidableEq
inductive Role where
 |free
 |bB (o:Obj)
 |aY (o:Obj)
 |own (g:Tag)
abbrev bU:=Addr->Role
abbrev lW (vs:Array Value):Obj:={cls:= .type "tuple",data:= .seq vs}
abbrev gW (vs:Array Value) (n:Nat):Obj:={cls:= .type "list",data:= .seq vs n}
abbrev eW (es:Array DictEntry) (n:Nat):Obj:={cls:= .type "dict",data:= .dict es n}
abbrev GH (n:Int) (t u v:Tok):Obj:={cls:= .type "range",data:= .fields #[.int 0 t,.int n u,.int 1 v]}
abbrev D2 (C:Addr) (d:Addr):Obj:={cls:= .ref C,dict:=some d,data:= .plain}
abbrev nM (l:List Nat):Str:=⟨l.toArray⟩
mutual
noncomputable def wD:D->WData
 | .none=> .none
 | .bool b=> .bool b
 | .int i=> .int i
 | .str l=> .str (nM l)
 | .tup l=> .tuple (YG l)
 | .lst l=> .list (YG l)
 |_=> .none
noncomputable def YG:List D->List WData
 |[]=>[]
 |d::r=>wD d::YG r
end
def ja(P:Params)(d:D):Int:=hashW P (wD d)
mutual
@[reducible] noncomputable def VR (P:Params) (cl:Nat->Addr) (ρ:bU):D->Value->Prop
 | .none,v=>v= .none
 | .bool b,v=>v= .bool b
 | .int i,v=>∃t,v= .int i t
 | .str l,v=>∃t,v= .str (nM l) t/\EI l=true
 | .tup l,v=>∃a vs,v= .ref a/\ρ a= .bB (lW vs)/\dB P cl ρ l vs.toList
 | .lst l,v=>∃a vs n,v= .ref a/\ρ a= .bB (gW vs n)/\dB P cl ρ l vs.toList
 | .gT l,v=>∃a es n,v= .ref a/\ρ a= .bB (eW es n)/\gb P cl ρ l es.toList/\a≠sysModules/\kj l
 | .oy n,v=>∃a t u w,v= .ref a/\ρ a= .bB (GH n t u w)
 | .cin C,v=>∃a d n,v= .ref a/\ρ a= .bB (D2 (cl C) d)/\ρ d= .bB (eW #[] n)
@[reducible] noncomputable def dB (P:Params) (cl:Nat->Addr) (ρ:bU):List D->List Value->Prop
 |[],[]=>True
 |d::r,v::t=>VR P cl ρ d v/\dB P cl ρ r t
 |_,_=>False
@[reducible] noncomputable def gb (P:Params) (cl:Nat->Addr) (ρ:bU):List (D×D)->List DictEntry->Prop
 |[],[]=>True
 |(k,x)::r,e::t=>(e.hash=ja P k/\VR P cl ρ k e.key/\VR P cl ρ x e.val)/\gb P cl ρ r t
 |_,_=>False
end
section
variable{P:Params}{cl:Nat->Addr}{ρ aJ:bU}
def bg(ρ aJ:bU):Prop:=∀a o,ρ a= .bB o->aJ a= .bB o
theorem bg.refl:bg ρ ρ:=λ_ _ e=>e
theorem bg.trans{ao aZ cV:bU}(x:bg ao aZ)(y:bg aZ cV):bg ao cV:=λa o e=>y a o (x a o e)
mutual
theorem VR.mono(k:bg ρ aJ):∀{x:D} {v:Value},VR P cl ρ x v->VR P cl aJ x v
 | .none,_,h=>h
 | .bool _,_,h=>h
 | .int _,_,h=>h
 | .str _,_,h=>h
 | .tup l,_,h=>by obtain⟨a,vs,e,i,r⟩:=h;exact⟨a,vs,e,k _ _ i,dB.mono k r⟩
 | .lst l,_,h=>by obtain⟨a,vs,n,e,i,r⟩:=h;exact⟨a,vs,n,e,k _ _ i,dB.mono k r⟩
 | .gT l,_,h=>by obtain⟨a,vs,n,e,i,r,z⟩:=h;exact⟨a,vs,n,e,k _ _ i,gb.mono k r,z⟩
 | .oy n,_,h=>by obtain⟨a,t,u,w,e,i⟩:=h;exact⟨a,t,u,w,e,k _ _ i⟩
 | .cin C,_,h=>by obtain⟨a,d,n,e,i,j⟩:=h;exact⟨a,d,n,e,k _ _ i,k _ _ j⟩
theorem dB.mono(k:bg ρ aJ):∀{l:List D} {vs:List Value},dB P cl ρ l vs->dB P cl aJ l vs
 |[],[],_=>trivial
 |x::r,v::t,h=>by exact⟨VR.mono k h.1,dB.mono k h.2⟩
 |[],_::_,h=>by exact h.elim
 |_::_,[],h=>by exact h.elim
theorem gb.mono(k:bg ρ aJ):∀{l:List (D×D)} {es:List DictEntry},gb P cl ρ l es->gb P cl aJ l es
 |[],[],_=>trivial
 |(x,y)::r,e::t,h=>by exact⟨⟨h.1.1,VR.mono k h.1.2.1,VR.mono k h.1.2.2⟩,gb.mono k h.2⟩
 |[],_::_,h=>by exact h.elim
 |(_,_)::_,[],h=>by exact h.elim
end
theorem dB.length:∀{l:List D} {vs:List Value},dB P cl ρ l vs->l.length=vs.length
 |[],[],_=>rfl
 |x::r,v::t,h=>by simp[dB.length h.2]
 |[],_::_,h=>by exact h.elim
 |_::_,[],h=>by exact h.elim
theorem dB.get:∀{l:List D} {vs:List Value} {i:Nat} {d:D},dB P cl ρ l vs->l[i]?=some d->∃v,vs[i]?=some v/\VR P cl ρ d v
 |[],_,_,_,_,e=>by simp at e
 |x::r,[],_,_,h,_=>by exact h.elim
 |x::r,v::t,0,d,h,e=>by simp only[fw,sW,getElem?_pos,uE,nZ]at e;subst e;exact⟨v,rfl,h.1⟩
 |x::r,v::t,i+1,d,h,e=>by simp only[qN]at e⊢;exact dB.get h.2 e
theorem dB.append:∀{l m:List D} {vs us:List Value},dB P cl ρ l vs->dB P cl ρ m us->dB P cl ρ (l++m) (vs++us)
 |[],m,[],us,_,h=>h
 |x::r,m,v::t,us,h,g=>by show dB P cl ρ (x::(r++m)) (v::(t++us));exact⟨h.1,dB.append h.2 g⟩
 |[],_,_::_,_,h,_=>by exact h.elim
 |_::_,_,[],_,h,_=>by exact h.elim
theorem dB.drop:∀{l:List D} {vs:List Value} (n:Nat),dB P cl ρ l vs->dB P cl ρ (l.drop n) (vs.drop n)
 |_,_,0,h=>h
 |[],[],n+1,_=>trivial
 |x::r,v::t,n+1,h=>by exact dB.drop n h.2
 |[],_::_,_+1,h=>by exact h.elim
 |_::_,[],_+1,h=>by exact h.elim
theorem dB.take:∀{l:List D} {vs:List Value} (n:Nat),dB P cl ρ l vs->dB P cl ρ (l.take n) (vs.take n)
 |_,_,0,_=>by simp[dB]
 |[],[],n+1,_=>trivial
 |x::r,v::t,n+1,h=>by show dB P cl ρ (x::r.take n) (v::t.take n);exact⟨h.1,dB.take n h.2⟩
 |[],_::_,_+1,h=>by exact h.elim
 |_::_,[],_+1,h=>by exact h.elim
theorem gb.length:∀{l:List (D×D)} {es:List DictEntry},gb P cl ρ l es->l.length=es.length
 |[],[],_=>rfl
 |(x,y)::r,v::t,h=>by simp[gb.length h.2]
 |[],_::_,h=>by exact h.elim
 |(_,_)::_,[],h=>by exact h.elim
theorem gb.get:∀{l:List (D×D)} {es:List DictEntry} {i:Nat} {k x:D},gb P cl ρ l es->l[i]?=some (k,x)->∃e,es[i]?=some e/\e.hash=ja P k/\VR P cl ρ k e.key/\VR P cl ρ x e.val
 |[],_,_,_,_,_,e=>by simp at e
 |(_,_)::r,[],_,_,_,h,_=>by exact h.elim
 |(a,b)::r,v::t,0,k,x,h,e=>by simp only[fw,sW,getElem?_pos,uE,nZ,Prod.mk.injEq]at e;obtain⟨rfl,rfl⟩:=e;exact⟨v,rfl,h.1.1,h.1.2.1,h.1.2.2⟩
 |(a,b)::r,v::t,i+1,k,x,h,e=>by simp only[qN]at e⊢;exact gb.get h.2 e
theorem gb.append:∀{l m:List (D×D)} {vs us:List DictEntry},gb P cl ρ l vs->gb P cl ρ m us->gb P cl ρ (l++m) (vs++us)
 |[],m,[],us,_,h=>h
 |(x,y)::r,m,v::t,us,h,g=>by show gb P cl ρ ((x,y)::(r++m)) (v::(t++us));exact⟨h.1,gb.append h.2 g⟩
 |[],_,_::_,_,h,_=>by exact h.elim
 |(_,_)::_,_,[],_,h,_=>by exact h.elim
end
end
structure bk where
 P:Params
 cl:Nat->Addr
 an:Nat->Str
 nA:Nat
 K:Frag
structure dG (T:bk) (w:World):Prop where
 P:T.P=w.params
 inj:∀a b,a<T.nA->b<T.nA->T.an a=T.an b->a=b
 get:∀C,plainGet T.K (T.cl C) Str.empty=true
 set:∀C,findIn T.K (.ref (T.cl C)) "__setattr__"=some (some (.builtin "object.__setattr__"))
 over:∀C,plainOver T.K (T.cl C)=true
 dict:∀C,hasDictIn T.K (T.cl C)=true
 attr:∀C a,a<T.nA->findIn T.K (.ref (T.cl C)) (T.an a)=some none
structure Lo where
 p:Nat->Addr
 d:Nat->Addr
 t:Nat->Addr
 np:Nat
 nt:Nat
structure Lo.le (L L':Lo):Prop where
 np:L.np<=L'.np
 nt:L.nt<=L'.nt
 p:∀n,n<L.np->L'.p n=L.p n
 d:∀n,n<L.np->L'.d n=L.d n
 t:∀n,n<L.nt->L'.t n=L.t n
theorem Lo.le.refl{L:Lo}:L.le L:=⟨dA _,dA _,λ_ _=>rfl,λ_ _=>rfl,λ_ _=>rfl⟩
theorem Lo.le.trans{aQ eM lX:Lo}(x:aQ.le eM)(y:eM.le lX):aQ.le lX:=
 ⟨aW x.np y.np,aW x.nt y.nt,λn h=>(y.p n (pW h x.np)).trans (x.p n h),λn h=>(y.d n (pW h x.np)).trans (x.d n h),λn h=>(y.t n (pW h x.nt)).trans (x.t n h)⟩
def Qy:PV->Bool
 | .aI _=>false
 |_=>true
section
variable(T:bk)(ρ:bU)(L:Lo)
def cv:PV->Value->Prop
 | .d x,v=>VR T.P T.cl ρ x v
 | .ax n,v=>n<L.np/\v= .ref (L.p n)
 | .aI n,v=>n<L.nt/\v= .ref (L.t n)
@[reducible] def my:List (Nat×PV)->List DictEntry->Prop
 |[],[]=>True
 |(a,x)::r,e::t=>(a<T.nA/\(∃tk,e.key= .str (T.an a) tk)/\cv T ρ L x e.val/\Qy x=true)/\my r t
 |_,_=>False
def o9(h:Heap)(n:Nat):MO->Prop
 | .list l=>ρ (L.p n)= .own (.p n)/\∃vs k,h.get? (L.p n)=some (gW vs k)/\dB T.P T.cl ρ l vs.toList
 | .dict l=>ρ (L.p n)= .own (.p n)/\(L.p n≠sysModules/\kj l)/\∃es k,h.get? (L.p n)=some (eW es k)/\gb T.P T.cl ρ l es.toList
 | .inst C fs=>ρ (L.p n)= .own (.p n)/\ρ (L.d n)= .own (.d n)/\h.get? (L.p n)=some (D2 (T.cl C) (L.d n))/\∃es k,h.get? (L.d n)=some (eW es k)/\my T ρ L fs es.toList
 | .dead=>True
def o_(h:Heap)(n:Nat):TO->Prop
 | .list l=>ρ (L.t n)= .own (.t n)/\∃vs k,h.get? (L.t n)=some (gW vs k)/\dB T.P T.cl ρ l vs.toList
 | .dict l=>ρ (L.t n)= .own (.t n)/\(L.t n≠sysModules/\kj l)/\∃es k,h.get? (L.t n)=some (eW es k)/\gb T.P T.cl ρ l es.toList
 | .dead=>True
def pa(h:Heap)(a:Addr):Role->Prop
 | .free=>True
 | .bB o=>h.get? a=some o
 | .aY o=>h.get? a=some o
 | .own _=>∃o,h.get? a=some o
structure Rep (σ:PS) (h:Heap):Prop where
 np:L.np=σ.pm.length
 nt:L.nt=σ.tm.length
 role:∀a,pa h a (ρ a)
 ax:∀n m,σ.pm[n]?=some m->o9 T ρ L h n m
 aI:∀n t,σ.tm[n]?=some t->o_ T ρ L h n t
end
structure gc (ρ aJ:bU):Prop where
 bB:bg ρ aJ
 aY:∀a o,ρ a= .aY o->aJ a= .aY o
theorem gc.refl{ρ:bU}:gc ρ ρ:=⟨bg.refl,λ_ _ e=>e⟩
theorem gc.trans{ao aZ cV:bU}(x:gc ao aZ)(y:gc aZ cV):gc ao cV:=⟨x.bB.trans y.bB,λa o e=>y.aY a o (x.aY a o e)⟩
def up(ρ:bU)(a:Addr)(r:Role):bU:=λb=>if b=a then r else ρ b
theorem aO{ρ:bU}{a:Addr}{r:Role}:up ρ a r a=r:=by simp[up]
theorem a8{ρ:bU}{a b:Addr}{r:Role}(h:b≠a):up ρ a r b=ρ b:=by simp[up,h]
section
variable{T:bk}{ρ aJ:bU}{L L':Lo}{σ:PS}{h h':Heap}
theorem cv.mono(k:bg ρ aJ)(l:L.le L'):∀{x:PV} {v:Value},cv T ρ L x v->cv T aJ L' x v
 | .d _,_,h=>VR.mono k h
 | .ax n,_,h=>⟨pW h.1 l.np,by rw[l.p n h.1];exact h.2⟩
 | .aI n,_,h=>⟨pW h.1 l.nt,by rw[l.t n h.1];exact h.2⟩
theorem my.mono(k:bg ρ aJ)(l:L.le L'):∀{fs:List (Nat×PV)} {es:List DictEntry},my T ρ L fs es->my T aJ L' fs es
 |[],[],_=>trivial
 |(a,x)::r,e::t,h=>⟨⟨h.1.1,h.1.2.1,cv.mono k l h.1.2.2.1,h.1.2.2.2⟩,my.mono k l h.2⟩
 |[],_::_,h=>by exact h.elim
 |(_,_)::_,[],h=>by exact h.elim
theorem Rep.has(R:Rep T ρ L σ h){a:Addr}(n:ρ a≠.free):∃o,h.get? a=some o:=by
 have:=R.role a;revert this;cases e:ρ a with
 |free=>exact absurd e n
 |bB o=>exactλq=>⟨o,q⟩
 |aY o=>exactλq=>⟨o,q⟩
 |own g=>exactλq=>q
theorem Rep.bB(R:Rep T ρ L σ h){a:Addr}{o:Obj}(e:ρ a= .bB o):h.get? a=some o:=by have:=R.role a;rw[e]at this;exact this
theorem Rep.aY(R:Rep T ρ L σ h){a:Addr}{o:Obj}(e:ρ a= .aY o):h.get? a=some o:=by have:=R.role a;rw[e]at this;exact this
theorem Rep.fresh(R:Rep T ρ L σ h){a:Addr}(e:h.get? a=none):ρ a= .free:=by
 cases q:ρ a with
 |free=>rfl
 |_=>obtain⟨o,ho⟩:=R.has (a:=a) (by rw[q];intro z;cases z);rw[e]at ho;cases ho
theorem pb(h:Heap):h.get? h.objs.size=none:=by
 cases e:h.get? h.objs.size with
 |none=>rfl
 |some o=>exact absurd (Heap.lt_size e) (Nat.lt_irrefl _)
theorem Rep.new(R:Rep T ρ L σ h):ρ h.objs.size= .free:=R.fresh (pb h)
theorem o9.keep{n:Nat}(k:bg ρ aJ)(l:L.le L')(hn:n<L.np)(w:∀a g,(g= .p n\/g= .d n)->ρ a= .own g->aJ a= .own g/\∀o,h.get? a=some o->h'.get? a=some o){m:MO}(x:o9 T ρ L h n m):o9 T aJ L' h' n m:=by
 cases m with
 |list _=>
  obtain⟨a,vs,i,b,c⟩:=x;obtain⟨w1,w2⟩:=w _ _ (.inl rfl) a;exact⟨by rw[l.p n hn];exact w1,vs,i,by rw[l.p n hn];exact w2 _ b,dB.mono k c⟩
 |dict _=>
  obtain⟨a,z,vs,i,b,c⟩:=x;obtain⟨w1,w2⟩:=w _ _ (.inl rfl) a;exact⟨by rw[l.p n hn];exact w1,by rw[l.p n hn];exact z,vs,i,by rw[l.p n hn];exact w2 _ b,gb.mono k c⟩
 |inst C fs=>
  obtain⟨a,a',b,es,i,b',c⟩:=x;obtain⟨w1,w2⟩:=w _ _ (.inl rfl) a;obtain⟨w3,w4⟩:=w _ _ (.inr rfl) a';exact⟨by rw[l.p n hn];exact w1,by rw[l.d n hn];exact w3,by rw[l.p n hn,l.d n hn];exact w2 _ b,es,i,by rw[l.d n hn];exact w4 _ b',my.mono k l c⟩
 |dead=>exact trivial
theorem o_.keep{n:Nat}(k:bg ρ aJ)(l:L.le L')(hn:n<L.nt)(w:∀a,ρ a= .own (.t n)->aJ a= .own (.t n)/\∀o,h.get? a=some o->h'.get? a=some o){m:TO}(x:o_ T ρ L h n m):o_ T aJ L' h' n m:=by
 cases m with
 |list _=>
  obtain⟨a,vs,i,b,c⟩:=x;obtain⟨w1,w2⟩:=w _ a;exact⟨by rw[l.t n hn];exact w1,vs,i,by rw[l.t n hn];exact w2 _ b,dB.mono k c⟩
 |dict _=>
  obtain⟨a,z,vs,i,b,c⟩:=x;obtain⟨w1,w2⟩:=w _ a;exact⟨by rw[l.t n hn];exact w1,by rw[l.t n hn];exact z,vs,i,by rw[l.t n hn];exact w2 _ b,gb.mono k c⟩
 |dead=>exact trivial
theorem br{α:Type}{l:List α}{n:Nat}{m:α}(e:l[n]?=some m):n<l.length:=(gf.mp e).1
theorem Rep.heap(R:Rep T ρ L σ h)(k:∀a o,ρ a≠.free->h.get? a=some o->h'.get? a=some o):Rep T ρ L σ h' where
 np:=R.np
 nt:=R.nt
 role:=λa=>by
  have:=R.role a;cases e:ρ a with
  |free=>trivial
  |bB o=>rw[e]at this;exact k a o (by rw[e];intro z;cases z) this
  |aY o=>rw[e]at this;exact k a o (by rw[e];intro z;cases z) this
  |own g=>rw[e]at this;obtain⟨o,ho⟩:=this;exact⟨o,k a o (by rw[e];intro z;cases z) ho⟩
 ax:=λn m e=>(R.ax n m e).keep bg.refl Lo.le.refl (by rw[R.np];exact br e) λa g _ q=>⟨q,λo ho=>k a o (by rw[q];intro z;cases z) ho⟩
 aI:=λn m e=>(R.aI n m e).keep bg.refl Lo.le.refl (by rw[R.nt];exact br e) λa q=>⟨q,λo ho=>k a o (by rw[q];intro z;cases z) ho⟩
theorem Rep.push(R:Rep T ρ L σ h)(o:Obj):Rep T ρ L σ (h.push o):=R.heap λ_ _ _ e=>h_ o e
theorem Rep.extBut(R:Rep T ρ L σ h){b:Addr}(f:ρ b= .free)(s:Heap.ExtBut b h h'):Rep T ρ L σ h':=
 R.heap λa o n e=>s a o (λq=>n (q▸f)) e
theorem dw{b:Addr}{r:Role}(f:∀o,ρ b≠.bB o):bg ρ (up ρ b r):=λa o e=>by have:a≠b:=λq=>f o (q▸e);rw[a8 this];exact e
theorem Rep.takes(R:Rep T ρ L σ h){b:Addr}{r:Role}(f:ρ b= .free\/∃o,ρ b= .aY o)(k:∀a o,a≠b->ρ a≠.free->h.get? a=some o->h'.get? a=some o)(hr:pa h' b r):Rep T (up ρ b r) L σ h':=by
 have ni:∀o,ρ b≠.bB o:=by rcases f with f|⟨o',f⟩<;>(intro o;rw[f];intro z;cases z)
 have no:∀g,ρ b≠.own g:=by rcases f with f|⟨o',f⟩<;>(intro o;rw[f];intro z;cases z)
 have im:=dw (r:=r) ni;refine⟨R.np,R.nt,λa=>?_,λn m e=>(R.ax n m e).keep im Lo.le.refl (by rw[R.np];exact br e) ?_,λn m e=>(R.aI n m e).keep im Lo.le.refl (by rw[R.nt];exact br e) ?_⟩
 ·by_cases q:a=b
  ·subst q;rw[aO];exact hr
  ·rw[a8 q];have:=R.role a;cases e:ρ a with
   |free=>trivial
   |bB o=>rw[e]at this;exact k a o q (by rw[e];intro z;cases z) this
   |aY o=>rw[e]at this;exact k a o q (by rw[e];intro z;cases z) this
   |own g=>rw[e]at this;obtain⟨o,ho⟩:=this;exact⟨o,k a o q (by rw[e];intro z;cases z) ho⟩
 ·intro a g _ q;have gX:a≠b:=λz=>no g (z▸q);exact⟨by rw[a8 gX];exact q,λo ho=>k a o gX (by rw[q];intro z;cases z) ho⟩
 ·intro a q;have gX:a≠b:=λz=>no _ (z▸q);exact⟨by rw[a8 gX];exact q,λo ho=>k a o gX (by rw[q];intro z;cases z) ho⟩
theorem dQ{b:Addr}{r:Role}(f:ρ b= .free):gc ρ (up ρ b r):=
 ⟨dw λo=>(by rw[f];intro z;cases z),λa o e=>(by
  have:a≠b:=λq=>by rw[q,f]at e;cases e
  rw[a8 this];exact e)⟩
theorem Rep.zf(R:Rep T ρ L σ h)(o:Obj)(ho:o.isFreed=false:=by rfl):Rep T (up ρ h.objs.size (.bB o)) L σ (h.push o)/\gc ρ (up ρ h.objs.size (.bB o)):=
 ⟨R.takes (.inl R.new) (λa _ _ _ e=>h_ o e) (jK h ho),dQ R.new⟩
theorem Rep.zg(R:Rep T ρ L σ h)(o:Obj)(ho:o.isFreed=false:=by rfl):Rep T (up ρ h.objs.size (.aY o)) L σ (h.push o)/\gc ρ (up ρ h.objs.size (.aY o)):=
 ⟨R.takes (.inl R.new) (λa _ _ _ e=>h_ o e) (jK h ho),dQ R.new⟩
theorem Rep.GI(R:Rep T ρ L σ h){b:Addr}{o:Obj}{t:TO}(f:ρ b= .free)(k:∀a o,a≠b->ρ a≠.free->h.get? a=some o->h'.get? a=some o)(hb:h'.get? b=some o)
  (c:∀L',L'.t σ.tm.length=b->o_ T (up ρ b (.own (.t σ.tm.length))) L' h' σ.tm.length t):
  ∃L',L.le L'/\L'.t σ.tm.length=b/\L'.nt=σ.tm.length+1/\Rep T (up ρ b (.own (.t σ.tm.length))) L' ⟨σ.pm,σ.tm++[t]⟩ h'/\gc ρ (up ρ b (.own (.t σ.tm.length))):=by
 have le:=dQ (r:= .own (.t σ.tm.length)) f;let L':Lo:=⟨L.p,L.d,λn=>if n=σ.tm.length then b else L.t n,L.np,L.nt+1⟩;have ll:L.le L':=⟨dA _,qT _,λ_ _=>rfl,λ_ _=>rfl,λn hn=>by show(if n=σ.tm.length then b else L.t n)=_;rw[if_neg (by rw[R.nt]at hn;omega)]⟩
 have Lb:L'.t σ.tm.length=b:=by show(if _ then b else _)=b;rw[if_pos rfl]
 refine⟨L',ll,Lb,by show L.nt+1=_;rw[R.nt],⟨R.np,by show L.nt+1=(σ.tm++[t]).length;rw[R.nt,dS];rfl,λa=>?_,λn m e=>(R.ax n m e).keep le.bB ll (by rw[R.np];exact br e) ?_,λn m e=>?_⟩,le⟩
 ·by_cases q:a=b
  ·subst q;rw[aO];exact⟨o,hb⟩
  ·rw[a8 q];have:=R.role a;cases e:ρ a with
   |free=>trivial
   |bB o=>rw[e]at this;exact k a o q (by rw[e];intro z;cases z) this
   |aY o=>rw[e]at this;exact k a o q (by rw[e];intro z;cases z) this
   |own g=>rw[e]at this;obtain⟨o,ho⟩:=this;exact⟨o,k a o q (by rw[e];intro z;cases z) ho⟩
 ·intro a g _ q;have gX:a≠b:=λz=>by rw[z,f]at q;cases q
  exact⟨by rw[a8 gX];exact q,λo ho=>k a o gX (by rw[q];intro z;cases z) ho⟩
 ·by_cases hn:n<σ.tm.length
  ·have e:σ.tm[n]?=some m:=by rw[<-e];exact(mM hn).symm
   refine(R.aI n m e).keep le.bB ll (by rw[R.nt];exact hn) λa q=>?_;have gX:a≠b:=λz=>by rw[z,f]at q;cases q
   exact⟨by rw[a8 gX];exact q,λo ho=>k a o gX (by rw[q];intro z;cases z) ho⟩
  ·have hl:=br e
   replace hl:=dS▸hl
   have:n=σ.tm.length:=Nat.le_antisymm (Nat.le_of_lt_succ hl) (Nat.not_lt.mp (by assumption));subst this;have:m=t:=by simpa using e.symm
   rw[this];exact c L' Lb
theorem Rep.GJ(R:Rep T ρ L σ h){n:Nat}{t₀ t:TO}(e:σ.tm[n]?=some t₀)(ow:ρ (L.t n)= .own (.t n))(s:Heap.ExtBut (L.t n) h h')(hs:∃o,h'.get? (L.t n)=some o)(c:o_ T ρ L h' n t):
  Rep T ρ L ⟨σ.pm,σ.tm.set n t⟩ h':=by
 have hn:=br e;refine⟨R.np,by rw[R.nt,gq],λa=>?_,λk m e=>(R.ax k m e).keep bg.refl Lo.le.refl (by rw[R.np];exact br e) ?_,λk m e=>?_⟩
 ·by_cases q:a=L.t n
  ·subst q;rw[ow];exact hs
  ·have:=R.role a;cases e:ρ a with
   |free=>trivial
   |bB o=>rw[e]at this;exact s a o q this
   |aY o=>rw[e]at this;exact s a o q this
   |own g=>rw[e]at this;obtain⟨o,ho⟩:=this;exact⟨o,s a o q ho⟩
 ·intro a g hg q;have gX:a≠L.t n:=λz=>by rw[z,ow]at q;cases q;rcases hg with hg|hg<;>cases hg
  exact⟨q,λo ho=>s a o gX ho⟩
 ·by_cases hk:k=n
  ·subst hk;rw[pQ hn]at e;cases e;exact c
  ·replace e:=(bq (gA hk))▸e
   refine(R.aI k m e).keep bg.refl Lo.le.refl (by rw[R.nt];exact br e) λa q=>?_;have gX:a≠L.t n:=λz=>by rw[z,ow]at q;cases q;exact hk rfl
   exact⟨q,λo ho=>s a o gX ho⟩
theorem Rep.zh(R:Rep T ρ L σ h){n:Nat}{t₀ t:MO}{b:Addr}{g:Tag}(e:σ.pm[n]?=some t₀)(hg:g= .p n\/g= .d n)(ow:ρ b= .own g)(s:Heap.ExtBut b h h')(hs:∃o,h'.get? b=some o)(c:o9 T ρ L h' n t):
  Rep T ρ L ⟨σ.pm.set n t,σ.tm⟩ h':=by
 have hn:=br e;refine⟨by rw[R.np,gq],R.nt,λa=>?_,λk m e=>?_,λk m e=>(R.aI k m e).keep bg.refl Lo.le.refl (by rw[R.nt];exact br e) ?_⟩
 ·by_cases q:a=b
  ·subst q;rw[ow];exact hs
  ·have:=R.role a;cases e:ρ a with
   |free=>trivial
   |bB o=>rw[e]at this;exact s a o q this
   |aY o=>rw[e]at this;exact s a o q this
   |own g=>rw[e]at this;obtain⟨o,ho⟩:=this;exact⟨o,s a o q ho⟩
 ·by_cases hk:k=n
  ·subst hk;rw[pQ hn]at e;cases e;exact c
  ·rw[bq (gA hk)]at e;refine(R.ax k m e).keep bg.refl Lo.le.refl (by rw[R.np];exact br e) λa g' WK q=>?_;have gX:a≠b:=λz=>by rw[z,ow]at q;cases q;rcases hg with hg|hg<;>rcases WK with WK|WK<;>(subst hg;first|change WK|(cases WK;exact hk rfl))
   exact⟨q,λo ho=>s a o gX ho⟩
 ·intro a q;have gX:a≠b:=λz=>by rw[z,ow]at q;cases q;rcases hg with hg|hg<;>cases hg
  exact⟨q,λo ho=>s a o gX ho⟩
theorem Rep.t9(R:Rep T ρ L σ h){n:Nat}{t₀:TO}{o:Obj}(e:σ.tm[n]?=some t₀)(ow:ρ (L.t n)= .own (.t n))(ho:h.get? (L.t n)=some o):
  Rep T (up ρ (L.t n) (.bB o)) L ⟨σ.pm,σ.tm.set n .dead⟩ h/\gc ρ (up ρ (L.t n) (.bB o)):=by
 have hn:=br e;have im:bg ρ (up ρ (L.t n) (.bB o)):=dw λo'=>by rw[ow];intro z;cases z
 refine⟨⟨R.np,by rw[R.nt,gq],λa=>?_,λk m e=>(R.ax k m e).keep im Lo.le.refl (by rw[R.np];exact br e) ?_,λk m e=>?_⟩,im,λa o' e=>?_⟩
 ·by_cases q:a=L.t n
  ·subst q;rw[aO];exact ho
  ·rw[a8 q];exact R.role a
 ·intro a g hg q;have gX:a≠L.t n:=λz=>by rw[z,ow]at q;cases q;rcases hg with hg|hg<;>cases hg
  exact⟨by rw[a8 gX];exact q,λo ho=>ho⟩
 ·by_cases hk:k=n
  ·subst hk;rw[pQ hn]at e;cases e;trivial
  ·replace e:=(bq (gA hk))▸e
   refine(R.aI k m e).keep im Lo.le.refl (by rw[R.nt];exact br e) λa q=>?_;have gX:a≠L.t n:=λz=>by rw[z,ow]at q;cases q;exact hk rfl
   exact⟨by rw[a8 gX];exact q,λo ho=>ho⟩
 ·have gX:a≠L.t n:=λz=>by rw[z,ow]at e;cases e
  rw[a8 gX];exact e
end
section
open Builtin.ObjectAttr
def cS(s s':Shared):Prop:=∃h t,s'={s with heap:=h,toks:=t}
theorem cS.refl(s:Shared):cS s s:=⟨s.heap,s.toks,rfl⟩
theorem cS.trans{aC bG fH:Shared}(x:cS aC bG)(y:cS bG fH):cS aC fH:=by obtain⟨h,t,rfl⟩:=x;obtain⟨h',t',rfl⟩:=y;exact⟨h',t',rfl⟩
theorem cS.mk(s:Shared)(h:Heap)(t:Nat):cS s {s with heap:=h,toks:=t}:=⟨h,t,rfl⟩
inductive After (T:bk) (ρ:bU) (L:Lo) (s:Shared) (aN:PS) (s':Shared) (Z:bU->Lo->Prop):Prop
 |mk (aJ:bU) (L':Lo) (a:gc ρ aJ) (b:L.le L') (c:Rep T aJ L' aN s'.heap) (d:cS s s') (z:Z aJ L'):After T ρ L s aN s' Z
abbrev jZ (T:bk) (ρ:bU) (L:Lo) (s:Shared) (v:PV) (aN:PS) (u:Value) (s':Shared):Prop:=
 After T ρ L s aN s' λaJ L'=>cv T aJ L' v u
section
variable{T:bk}{ρ:bU}{L:Lo}{σ aN:PS}{s s':Shared}{Z:bU->Lo->Prop}
theorem After.now{aJ:bU}{L':Lo}(a:gc ρ aJ)(b:L.le L')(c:Rep T aJ L' aN s'.heap)(d:cS s s')(z:Z aJ L'):After T ρ L s aN s' Z:=⟨aJ,L',a,b,c,d,z⟩
theorem After.eV(R:Rep T ρ L σ s'.heap)(d:cS s s')(z:Z ρ L):After T ρ L s σ s' Z:=⟨ρ,L,.refl,.refl,R,d,z⟩
theorem After.from{aC:Shared}{ao:bU}{aQ:Lo}(a:gc ρ ao)(b:L.le aQ)(d:cS s aC)(x:After T ao aQ aC aN s' Z):After T ρ L s aN s' Z:=by obtain⟨aJ,L',a',b',c,d',z⟩:=x;exact⟨aJ,L',a.trans a',b.trans b',c,d.trans d',z⟩
end
def hJ(T:bk)(ρ:bU):Prop:=∀a o,T.K.lookup a=some o->ρ a= .bB o
theorem hJ.mono{T:bk}{ρ aJ:bU}(k:hJ T ρ)(x:gc ρ aJ):hJ T aJ:=λa o e=>x.bB a o (k a o e)
theorem hJ.in{T:bk}{ρ:bU}{L:Lo}{σ:PS}{h:Heap}(k:hJ T ρ)(R:Rep T ρ L σ h):T.K.In h:=λa o e=>R.bB (k a o e)
section
variable{T:bk}{ρ:bU}{L:Lo}
theorem my.refKey:∀{fs:List (Nat×PV)} {es:List DictEntry},my T ρ L fs es->es.any (·.refKey)=false
 |[],[],_=>rfl
 |(a,x)::r,e::t,h=>by obtain⟨⟨_,⟨tk,hk⟩,_⟩,h2⟩:=h;rw[List.any_cons,my.refKey h2,Bool.or_false];obtain⟨hs,key,val⟩:=e;subst hk;rfl
 |[],_::_,h=>by exact h.elim
 |(_,_)::_,[],h=>by exact h.elim
theorem xy{w:World}(ok:dG T w){a b:Nat}(ha:a<T.nA)(hb:b<T.nA)(tk:Tok):(Value.str (T.an b) tk).isStr (T.an a)=Nat.beq a b:=by
 show(T.an b==T.an a)=_;cases h:Nat.beq a b with
 |true=>rw[kh h];exact beq_self_eq_true _
 |false=>
  refine beq_eq_false_iff_ne.mpr λe=>?_;have:=ok.inj b a hb ha e;subst this;rw[Nat.beq_refl]at h;cases h
theorem my.get{w:World}(ok:dG T w){a:Nat}(ha:a<T.nA){fs:List (Nat×PV)}:∀{es:List DictEntry} {x:PV},my T ρ L fs es->p6 a fs=some x->
  ∃e,es.find? (·.key.isStr (T.an a))=some e/\cv T ρ L x e.val:=by
 induction fs with
 |nil=>intro _ _ _ q;exact noS q
 |cons f r ih=>
  intro es x h q;rcases es with _|⟨e,t⟩
  ·exact h.elim
  rcases f with⟨b,y⟩;obtain⟨⟨hb,⟨tk,hk⟩,hv⟩,h2⟩:=h;dsimp only[p6]at q;rw[List.find?_cons,hk,xy ok ha hb];cases z:Nat.beq a b with
  |true=>rw[z]at q;cases q;exact⟨e,rfl,hv.1⟩
  |false=>rw[z]at q;exact ih h2 q
theorem my.put{w:World}(ok:dG T w){a:Nat}(ha:a<T.nA){x:PV}{u:Value}(hu:cv T ρ L x u)(hx:Qy x=true)(hs:Int)(tk:Tok){fs:List (Nat×PV)}:∀{es:List DictEntry},my T ρ L fs es->
  my T ρ L (s7 a x fs) (putL (T.an a) hs (.str (T.an a) tk) u es):=by
 induction fs with
 |nil=>
  intro es h;rcases es with _|⟨e,t⟩;rotate_left
  ·exact h.elim
  show my T ρ L [(a,x)] [_];exact⟨⟨ha,⟨tk,rfl⟩,hu,hx⟩,trivial⟩
 |cons f r ih=>
  intro es h;rcases es with _|⟨e,t⟩
  ·exact h.elim
  rcases f with⟨b,y⟩;obtain⟨⟨hb,⟨tk',hk⟩,hv⟩,h2⟩:=h;dsimp only[s7,putL];rw[hk,xy ok ha hb];cases z:Nat.beq a b with
  |true=>
   show my T ρ L ((a,x)::r) _;rw[if_pos rfl];refine⟨⟨ha,⟨tk',?_⟩,hu,hx⟩,h2⟩;rw[kh z]
  |false=>
   show my T ρ L ((b,y)::s7 a x r) _;rw[if_neg ∅];exact⟨⟨hb,⟨tk',hk⟩,hv⟩,ih h2⟩
theorem my.length:∀{fs:List (Nat×PV)} {es:List DictEntry},my T ρ L fs es->fs.length=es.length
 |[],[],_=>rfl
 |(a,x)::r,e::t,h=>by simp[my.length h.2]
 |[],_::_,h=>by exact h.elim
 |(_,_)::_,[],h=>by exact h.elim
end
section
variable{E:Value->Shared->Prop}
theorem J0{K:Frag}{x C:Addr}{ox od YH:Obj}{dx:Addr}{name:Str}{tk:Tok}{v:Value}{es:List DictEntry}{n:Nat}{R:Result->Shared->Prop}(X:K.In s.heap)
  (I:PySem.W.InstAt s.heap x ox C (some od)) (hd:ox.dict=some dx) (hp:plainOver K C=true) (ht:takerIn K C name=some none) (hh:hasDictIn K C=true)
  (hl:(lookIn name od).isSome=true)
  (e:Obj.putName name (PyData.keyHash w.params name) (.str name s.toks) v od=YH) (e':YH.data= .dict es.toArray n) (hz:es.length<=1000)
  (h:R (.ok (.ret .none)) {s with heap:=s.heap.update dx (Obj.putName name (PyData.keyHash w.params name) (.str name s.toks) v),toks:=s.toks+1}):
  codeAny (model prog w) A (.call (.builtin "object.__setattr__") ⟨[.ref x,.str name tk,v],[]⟩) R s:=by
 refine osa_open X I hp ht λb=>?_;obtain⟨cd,hc,hd'⟩:=any_some hh;obtain⟨hx,hcl,hn,hdd⟩:=I;obtain⟨oc,odi,oda,osl⟩:=ox;dsimp only at hcl hd hdd;subst hcl hd;have D:s.heap.get? dx=some od:=hdd;have D':(s.heap.update dx (Obj.putName name (PyData.keyHash w.params name) (.str name s.toks) v)).get? dx=some YH:=
  e▸Heap.get?_update_self _ D (e▸(by obtain⟨_,_,dd,_⟩:=YH;cases e';rfl))
 refine wpAny_bind (wpAny_pure (wpAny_bind (wpAny_bind (wpAny_loadPart hx (wpAny_bind ((looks_clsIn X hc).here ?_))))));rw[hd'];refine wpAny_pure (a:=some dx) (wpAny_bind (wpAny_pure (wpAny_bind ?_)));refine wpAny_bind (wpAny_bind (wpAny_askSetting (wpAny_pure (wpAny_bind (wpAny_mkText (wpAny_bind (wpAny_loadPart D ?_)))))));unfold lookIn at hl;split at hl
 ·rename_i L8 n₀ q;rw[q];dsimp only;have c:(!L8.any (·.key.isStr name)&&L8.any (·.refKey))=false:=by
   rw[<-Array.any_toList,<-Array.any_toList];split at hl
   ·rename_i en he;rw[uA.mpr ⟨en,List.mem_of_find?_eq_some he,List.find?_some he⟩];rfl
   ·split at hl
    ·cases hl
    ·rename_i z;rw[Bool.not_eq_true]at z;rw[z,Bool.and_false]
  rw[aRefKeyMayBeTheName_at,c];refine wpAny_updatePart D ?_;refine wpAny_bind (wpAny_lookBehind D' (by rw[e'];exact pastItsLine_dict (by rw[List.size_toArray,sizeLine_eq];omega)) ?_);exact wpAny_pure h
 ·cases hl
end
section
variable{E:Value->Shared->Prop}{T:bk}{ρ:bU}{L:Lo}{σ:PS}
theorem AN(R:Rep T ρ L σ s.heap){n C:Nat}{fs:List (Nat×PV)}(e:σ.pm[n]?=some (.inst C fs)):
  ∃es k,PySem.W.InstAt s.heap (L.p n) (D2 (T.cl C) (L.d n)) (T.cl C) (some (eW es k))/\s.heap.get? (L.d n)=some (eW es k)/\my T ρ L fs es.toList:=by
 obtain⟨a,b,c,es,k,d,v⟩:=R.ax n _ e;exact⟨es,k,⟨c,rfl,rfl,d⟩,d,v⟩
theorem J1(ok:dG T w)(K:hJ T ρ)(R:Rep T ρ L σ s.heap){n C a:Nat}{fs:List (Nat×PV)}{x:PV}(e:σ.pm[n]?=some (.inst C fs))(ha:a<T.nA)(g:p6 a fs=some x){ex:Bool}
  {Q:Value->Shared->Prop} (h:∀u,cv T ρ L x u->Q u {s with toks:=s.toks+1}) (hv:∀u,cv T ρ L x u->handedIn u=true): ~~~(getAttr (.ref (L.p n)) (T.an a) ex) Q E s:=by
 obtain⟨es,k,I,d,v⟩:=AN R e;obtain⟨en,hf,hu⟩:=v.get ok ha g;have hl:lookIn (T.an a) (eW es k)=some (some en.val):=by unfold lookIn;dsimp only;rw[hf]
 have hg:=ok.get C;simp only[plainGet,bx,fg]at hg;exact get_value (K.in R) I hg.1 (findObj_own (ok.dict C) (ok.attr C a ha) rfl hl) (hv _ hu) (h _ hu)
end
end
section
mutual
@[reducible] noncomputable def RD (P:Params) (cl:Nat->Addr) (h:Heap):D->Value->Prop
 | .none,v=>v= .none
 | .bool b,v=>v= .bool b
 | .int i,v=>∃t,v= .int i t
 | .str l,v=>∃t,v= .str (nM l) t/\EI l=true
 | .tup l,v=>∃a vs,v= .ref a/\h.get? a=some (lW vs)/\zi P cl h l vs.toList
 | .lst l,v=>∃a vs n,v= .ref a/\h.get? a=some (gW vs n)/\zi P cl h l vs.toList
 | .gT l,v=>∃a es n,v= .ref a/\h.get? a=some (eW es n)/\J2 P cl h l es.toList/\a≠sysModules/\kj l
 | .oy n,v=>∃a t u w,v= .ref a/\h.get? a=some (GH n t u w)
 | .cin C,v=>∃a d n,v= .ref a/\h.get? a=some (D2 (cl C) d)/\h.get? d=some (eW #[] n)
@[reducible] noncomputable def zi (P:Params) (cl:Nat->Addr) (h:Heap):List D->List Value->Prop
 |[],[]=>True
 |d::r,v::t=>RD P cl h d v/\zi P cl h r t
 |_,_=>False
@[reducible] noncomputable def J2 (P:Params) (cl:Nat->Addr) (h:Heap):List (D×D)->List DictEntry->Prop
 |[],[]=>True
 |(k,x)::r,e::t=>(e.hash=ja P k/\RD P cl h k e.key/\RD P cl h x e.val)/\J2 P cl h r t
 |_,_=>False
end
section
variable{P:Params}{cl:Nat->Addr}{ρ:bU}{h:Heap}
mutual
theorem VR.rd(R:∀a o,ρ a= .bB o->h.get? a=some o):∀{x:D} {v:Value},VR P cl ρ x v->RD P cl h x v
 | .none,_,h=>h
 | .bool _,_,h=>h
 | .int _,_,h=>h
 | .str _,_,h=>h
 | .tup l,_,q=>by obtain⟨a,vs,e,i,r⟩:=q;exact⟨a,vs,e,R _ _ i,dB.rd R r⟩
 | .lst l,_,q=>by obtain⟨a,vs,n,e,i,r⟩:=q;exact⟨a,vs,n,e,R _ _ i,dB.rd R r⟩
 | .gT l,_,q=>by obtain⟨a,vs,n,e,i,r,z⟩:=q;exact⟨a,vs,n,e,R _ _ i,gb.rd R r,z⟩
 | .oy n,_,q=>by obtain⟨a,t,u,w,e,i⟩:=q;exact⟨a,t,u,w,e,R _ _ i⟩
 | .cin C,_,q=>by obtain⟨a,d,n,e,i,j⟩:=q;exact⟨a,d,n,e,R _ _ i,R _ _ j⟩
theorem dB.rd(R:∀a o,ρ a= .bB o->h.get? a=some o):∀{l:List D} {vs:List Value},dB P cl ρ l vs->zi P cl h l vs
 |[],[],_=>trivial
 |x::r,v::t,q=>by exact⟨VR.rd R q.1,dB.rd R q.2⟩
 |[],_::_,q=>by exact q.elim
 |_::_,[],q=>by exact q.elim
theorem gb.rd(R:∀a o,ρ a= .bB o->h.get? a=some o):∀{l:List (D×D)} {es:List DictEntry},gb P cl ρ l es->J2 P cl h l es
 |[],[],_=>trivial
 |(x,y)::r,e::t,q=>by exact⟨⟨q.1.1,VR.rd R q.1.2.1,VR.rd R q.1.2.2⟩,gb.rd R q.2⟩
 |[],_::_,q=>by exact q.elim
 |(_,_)::_,[],q=>by exact q.elim
end
theorem zi.length:∀{l:List D} {vs:List Value},zi P cl h l vs->l.length=vs.length
 |[],[],_=>rfl
 |x::r,v::t,q=>by simp[zi.length q.2]
 |[],_::_,q=>by exact q.elim
 |_::_,[],q=>by exact q.elim
end
mutual
noncomputable def pD:D->PyData
 | .none=> .none
 | .bool b=> .bool b
 | .int i=> .int i
 | .str l=> .str (nM l)
 | .tup l=> .tuple (J3 l)
 | .lst l=> .list (J3 l)
 |_=> .none
noncomputable def J3:List D->List PyData
 |[]=>[]
 |d::r=>pD d::J3 r
end
theorem AO(a b:List Nat):(nM a==nM b)=(a==b):=by
 rw[jd,fg,fg];constructor
 ·intro e;injection e with e;injection e
 ·intro e;rw[e]
theorem D3{l:List Nat}(h:EI l=true):PyData.strOk (nM l)=true:=by
 show(l.toArray).all _=true;rw[List.all_toArray];unfold EI at h;rw[bf]at h⊢;intro c hc;have:=h c hc;have:Nat.blt c 1114112=true:=this;have:c<1114112:=by rwa [Nat.blt_eq]at this
 simpa using this
section
variable{P:Params}{cl:Nat->Addr}{h:Heap}
mutual
theorem RD.reads:∀{x:D} {v:Value},RD P cl h x v->qv x=true->(∃as,Reads h v (pD x) as)/\(pD x).canLay0=true
 | .none,v,q,_=>by subst q;exact⟨⟨_,.none⟩,rfl⟩
 | .bool b,v,q,_=>by subst q;exact⟨⟨_,.bool b⟩,rfl⟩
 | .int i,v,q,_=>by obtain⟨t,rfl⟩:=q;exact⟨⟨_,.int i t⟩,rfl⟩
 | .str l,v,q,_=>by obtain⟨t,rfl,k⟩:=q;exact⟨⟨_,.str _ t⟩,D3 k⟩
 | .tup l,v,q,z=>by obtain⟨a,vs,zq8,g,r⟩:=q;rw[zq8];obtain⟨⟨as,r1⟩,r2⟩:=zi.reads r z;exact⟨⟨_,.tuple g rfl rfl r1⟩,r2⟩
 | .lst l,v,q,z=>by obtain⟨a,vs,n,zq13,g,r⟩:=q;rw[zq13];obtain⟨⟨as,r1⟩,r2⟩:=zi.reads r z;exact⟨⟨_,.list g rfl rfl r1⟩,r2⟩
 | .gT l,v,q,z=>noB z
 | .oy n,v,q,z=>noB z
 | .cin C,v,q,z=>noB z
theorem zi.reads:∀{l:List D} {vs:List Value},zi P cl h l vs->lN l=true->(∃as,ReadsAll h vs (J3 l) as)/\PyData.canLayAll0 (J3 l)=true
 |[],[],_,_=>⟨⟨_,.nil⟩,rfl⟩
 |x::r,v::t,q,z=>by have z:=jJ.mp z;obtain⟨⟨as,r1⟩,c1⟩:=RD.reads q.1 z.1;obtain⟨⟨bs,r2⟩,c2⟩:=zi.reads q.2 z.2;exact⟨⟨_,.cons r1 r2⟩,jJ.mpr ⟨c1,c2⟩⟩
 |[],_::_,q,_=>by exact q.elim
 |_::_,[],q,_=>by exact q.elim
end
end
mutual
theorem eS:∀(x:D),qv x=true->(pD x).depth=dj x
 | .none,_=>rfl
 | .bool _,_=>rfl
 | .int _,_=>rfl
 | .str _,_=>rfl
 | .tup l,z=>congrArg (·+1) (gE l z)
 | .lst l,z=>congrArg (·+1) (gE l z)
 | .gT l,z=>noB z
 | .oy n,z=>noB z
 | .cin C,z=>noB z
theorem gE:∀(l:List D),lN l=true->PyData.depthAll (J3 l)=dY l
 |[],_=>rfl
 |x::r,z=>by have z:=jJ.mp z;exact congr (congrArg max (eS x z.1)) (gE r z.2)
end
mutual
theorem rN:∀(a b:D),qv a=true->qv b=true->PyData.eqv (pD a) (pD b)=bc a b
 | .none,b,_,z=>by cases b<;>first|rfl|exact noB z
 | .bool a,b,_,z=>by cases b<;>first|rfl|exact noB z
 | .int a,b,_,z=>by cases b<;>first|rfl|exact noB z
 | .str a,b,_,z=>by cases b<;>first|rfl|exact noB z|exact AO _ _
 | .tup a,b,y,z=>by
  cases b<;>first|rfl|exact noB z|skip
  rename_i b;exact vA a b y z
 | .lst a,b,y,z=>by
  cases b<;>first|rfl|exact noB z|skip
  rename_i b;exact vA a b y z
 | .gT l,_,z,_=>noB z
 | .oy n,_,z,_=>noB z
 | .cin C,_,z,_=>noB z
theorem vA:∀(a b:List D),lN a=true->lN b=true->PyData.eqvAll (J3 a) (J3 b)=kc a b
 |[],[],_,_=>rfl
 |[],_::_,_,_=>rfl
 |_::_,[],_,_=>rfl
 |a::r,b::t,y,z=>by have z:=jJ.mp z;have y:=jJ.mp y;exact congr (congrArg and (rN a b y.1 z.1)) (vA r t y.2 z.2)
end
theorem nN(x:D)(hx:qv x=true):∀(l:List D),lN l=true->((J3 l).any λy=>PyData.eqv y (pD x))=l.any λy=>bc y x
 |[],_=>rfl
 |a::r,z=>by have z:=jJ.mp z;exact congr (congrArg or (rN a x z.1 hx)) (nN x hx r z.2)
section
variable{E:Value->Shared->Prop}{P:Params}{cl:Nat->Addr}
theorem Qz{a b:D}{u v:Value}{r:Bool}{Q:Value->Shared->Prop}(ha:RD P cl s.heap a u)(hb:RD P cl s.heap b v)(hu:A.units+100<cLine)(e:Di a b=some r)(h:Q (.bool r) s):
  ~~~(compareOp .Eq u v) Q E s:=by
 refine dN e λq e=>?_;cases e;rw[bx,bx]at q;obtain⟨⟨q1,q2⟩,q3⟩:=q;obtain⟨⟨as,r1⟩,c1⟩:=ha.reads q1;obtain⟨⟨bs,r2⟩,c2⟩:=hb.reads q2;have q3:=g5 q3;exact SeqAt.compareEq_reads r1 r2 c1 c2 (by rw[eS _ q1,eS _ q2];exact sU (eU (aW q3 ∅) _) hu) (by rw[rN a b q1 q2];exact h)
theorem QA{a b:D}{u v:Value}{r:Bool}{Q:Value->Shared->Prop}(ha:RD P cl s.heap a u)(hb:RD P cl s.heap b v)(hu:A.units+100<cLine)(e:Di a b=some r)(h:Q (.bool (!r)) s):
  ~~~(compareOp .NotEq u v) Q E s:=by
 refine dN e λq e=>?_;cases e;rw[bx,bx]at q;obtain⟨⟨q1,q2⟩,q3⟩:=q;obtain⟨⟨as,r1⟩,c1⟩:=ha.reads q1;obtain⟨⟨bs,r2⟩,c2⟩:=hb.reads q2;have q3:=g5 q3;exact SeqAt.compareNe_reads r1 r2 c1 c2 (by rw[eS _ q1,eS _ q2];omega) (by rw[rN a b q1 q2];exact h)
theorem GK{l:List D}{b:D}{u v:Value}{r:Bool}{Q:Value->Shared->Prop}(hl:RD P cl s.heap (.lst l) u\/RD P cl s.heap (.tup l) u)(hb:RD P cl s.heap b v)(hu:A.units+100<cLine)(e:memD b l=some r)(h:Q (.bool r) s):
  ~~~(compareOp .In v u) Q E s:=by
 refine dN e λq e=>?_;cases e;rw[bx,bx]at q;obtain⟨⟨q1,q2⟩,q3⟩:=q;obtain⟨⟨bs,r2⟩,c2⟩:=hb.reads q1;have q3:=g5 q3;rcases hl with hl|hl
 ·obtain⟨⟨as,r1⟩,c1⟩:=hl.reads q2;exact SeqAt.in_list_reads r1 r2 c1 c2 (by rw[gE _ q2,eS _ q1];exact XS q3 hu) (by rw[nN b q1 l q2];exact h)
 ·obtain⟨⟨as,r1⟩,c1⟩:=hl.reads q2;exact SeqAt.in_tuple_reads r1 r2 c1 c2 (by rw[gE _ q2,eS _ q1];exact XS q3 hu) (by rw[nN b q1 l q2];exact h)
theorem t_{l:List D}{b:D}{u v:Value}{r:Bool}{Q:Value->Shared->Prop}(hl:RD P cl s.heap (.lst l) u\/RD P cl s.heap (.tup l) u)(hb:RD P cl s.heap b v)(hu:A.units+100<cLine)(e:memD b l=some r)(h:Q (.bool (!r)) s):
  ~~~(compareOp .NotIn v u) Q E s:=by
 refine dN e λq e=>?_;cases e;rw[bx,bx]at q;obtain⟨⟨q1,q2⟩,q3⟩:=q;obtain⟨⟨bs,r2⟩,c2⟩:=hb.reads q1;have q3:=g5 q3;rcases hl with hl|hl
 ·obtain⟨⟨as,r1⟩,c1⟩:=hl.reads q2;exact SeqAt.notIn_list_reads r1 r2 c1 c2 (by rw[gE _ q2,eS _ q1];exact XS q3 hu) (by rw[nN b q1 l q2];exact h)
 ·obtain⟨⟨as,r1⟩,c1⟩:=hl.reads q2;exact SeqAt.notIn_tuple_reads r1 r2 c1 c2 (by rw[gE _ q2,eS _ q1];exact XS q3 hu) (by rw[nN b q1 l q2];exact h)
end
end
section
mutual
noncomputable def GL:D->Nat
 | .tup l=>GN l+1
 |_=>1
noncomputable def GN:List D->Nat
 |[]=>0
 |d::r=>GL d+GN r
end
theorem WL{f:Nat->Bool}{n:Nat}{P:Prop}(h:kyT f n=true)(k:∀m,n=m+1->f m=true->P):P:=by
 cases n with
 |zero=>exact noB h
 |succ m=>exact k m rfl h
mutual
inductive Ky:Nat->D->Prop
 |int {n} (i:Int):Ky n (.int i)
 |str {n} (s:List Nat):Ky n (.str s)
 |tup {n} {l:List D}:Sv n l->Ky (n+1) (.tup l)
inductive Sv:Nat->List D->Prop
 |nil {n}:Sv n []
 |cons {n} {d:D} {l:List D}:Ky n d->Sv n l->Sv n (d::l)
end
mutual
theorem tr:∀(x:D) (n:Nat),kyO x n=true->Ky n x
 | .int i,_,_=> .int i
 | .str s,_,_=> .str s
 | .tup l,n,h=>WL (f:=E8 l) h λm e h=>e▸.tup (L9 l m h)
 | .none,_,h=>noB h
 | .bool _,_,h=>noB h
 | .lst _,_,h=>noB h
 | .gT _,_,h=>noB h
 | .cin _,_,h=>noB h
 | .oy _,_,h=>noB h
theorem L9:∀(x:List D) (n:Nat),E8 x n=true->Sv n x
 |[],_,_=> .nil
 |a::r,n,h=> .cons (tr a n (jJ.mp h).1) (L9 r n (jJ.mp h).2)
end
mutual
inductive GO (P:Params) (cl:Nat->Addr) (h:Heap):Nat->D->Value->Prop
 |int {n} (i:Int) (t:Tok):GO P cl h n (.int i) (.int i t)
 |str {n} (s:List Nat) (t:Tok):EI s=true->GO P cl h n (.str s) (.str (nM s) t)
 |tup {n} {l:List D} {a:Addr} {vs:Array Value}:h.get? a=some (lW vs)->D4 P cl h n l vs.toList->GO P cl h (n+1) (.tup l) (.ref a)
inductive D4 (P:Params) (cl:Nat->Addr) (h:Heap):Nat->List D->List Value->Prop
 |nil {n}:D4 P cl h n [] []
 |cons {n} {d:D} {l:List D} {v:Value} {vs:List Value}:GO P cl h n d v->D4 P cl h n l vs->D4 P cl h n (d::l) (v::vs)
end
section
variable{P:Params}{cl:Nat->Addr}{h h':Heap}
theorem xA{n:Nat}{x:D}(k:Ky n x):∀{v:Value},RD P cl h x v->GO P cl h n x v:=
 Ky.rec (motive_1:=λn x _=>∀{v:Value},RD P cl h x v->GO P cl h n x v) (motive_2:=λn l _=>∀{vs:List Value},zi P cl h l vs->D4 P cl h n l vs)
  (λi v r=>by obtain⟨t,rfl⟩:∃t,v= .int i t:=r;exact .int i t)
  (λs v r=>by obtain⟨t,rfl,o⟩:∃t,v= .str (nM s) t/\EI s=true:=r;exact .str s t o)
  (λ{n l} _ ih v r=>by obtain⟨a,vs,rfl,g,r⟩:∃a vs,v= .ref a/\h.get? a=some (lW vs)/\zi P cl h l vs.toList:=r;exact .tup g (ih r))
  (λ{n} vs r=>by
   cases vs with
   |nil=>exact .nil
   |cons=>exact r.elim)
  (λ{n d l} _ _ i1 i2 vs r=>by
   cases vs with
   |nil=>exact r.elim
   |cons v vs=>exact .cons (i1 r.1) (i2 r.2)) k
theorem J4(n m:Nat)(x y:D)(v:Value)(hx:iw n x=true)(hy:iw m y=true)(r:RD P cl h x v)(q:RD P cl h y v):x=y:=
 GO.rec (motive_1:=λn x v _=>∀m y,GO P cl h m y v->x=y) (motive_2:=λn l vs _=>∀m y,D4 P cl h m y vs->l=y)
  (λi t m y q=>by cases q;rfl)
  (λs t o m y q=>by generalize e:Value.str (nM s) t=v at q;cases q<;>cases e;rfl)
  (λ{n l a vs} g _ ih m y q=>by
   cases q with
   |tup g' r=>rw[g]at g';cases g';rw[ih _ _ r])
  (λm y q=>by cases q;rfl)
  (λ{n d l v vs} _ _ i1 i2 m y q=>by
   cases q with
   |cons a b=>rw[i1 _ _ a,i2 _ _ b])
  (xA (tr x n hx) r) m y (xA (tr y m hy) q)
theorem GP{d:Addr}{o:Obj}{es ep}(ho:h.get? d=some o)(hd:o.data= .dict es ep)(hs:Heap.SameBut d h h')(n:Nat)(x:D)(v:Value)(k:iw n x=true)(r:RD P cl h x v):RD P cl h' x v:=
 GO.rec (motive_1:=λn x v _=>RD P cl h' x v) (motive_2:=λn l vs _=>zi P cl h' l vs)
  (λi t=>⟨t,rfl⟩) (λs t o=>⟨t,rfl,o⟩)
  (λ{n l a vs} g _ ih=>⟨a,vs,rfl,(hs.2 a λz=>by subst z;rw[g]at ho;cases ho;cases hd).trans g,ih⟩)
  trivial (λ_ _ a b=>by exact⟨a,b⟩) (xA (tr x n k) r)
end
section
variable{E:Value->Shared->Prop}{cl:Nat->Addr}
theorem lF(P:Params)(i:Int):ja P (.int i)=hashInt i:=hashW_int P i
set_option maxRecDepth 100000 in
theorem xB(k:D)(n:Nat)(v:Value)(A:Around)(s:Shared)(Q:Int->Shared->Prop)(hk:iw n k=true)(x:RD w.params cl s.heap k v)(hu:A.units+n<cLine)
  (h:Q (ja w.params k) {s with toks:=s.toks+GL k}): ~~~(pyHash v) Q E s:=by
 refine GO.rec (P:=w.params) (cl:=cl) (h:=s.heap) (motive_1:=λn k v _=>∀(A:Around) (t:Nat) (Q:Int->Shared->Prop),A.units+n<cLine->Q (ja w.params k) {s with toks:=t+GL k}->~~~(pyHash v) Q E {s with toks:=t})
  (motive_2:=λn l vs _=>∀(A:Around) (t:Nat) (b:Array Int) (Q:Array Int->Shared->Prop),A.units+n<cLine->(∀b',b'.toList=b.toList++hashesW w.params (YG l)->Q b' {s with toks:=t+GN l})->
   ~~~(forIn vs b λx r=>do let h<-pyHash x;pure PUnit.unit;pure (ForInStep.yield (r.push h))) Q E {s with toks:=t})
  (λi _ A t Q hu h=>wpAny_pyHash_int (lF w.params i▸h)) (λy _ _ A t Q hu h=>wpAny_pyHash_str h) ?_ (λA t b Q _ h=>wpAny_pure (h b (ej _).symm)) ?_ (xA (tr k n hk) x) A s.toks Q hu h
 ·intro n l a vs hg _ ih A t Q hu h;refine pyHash_slot (T:="tuple") ⟨_,hg,rfl⟩ F.slot_tuple_hash F.entry_tuple_hash (F.args_tuple_hash_1 _) (beq_builtin_none _) (.inr (by omega)) ?_;show wpAny _ _ (Builtin.Tuple.tupleItemsOf (.ref a)>>=_) _ _ _;refine wpAny_bind (wpAny_tupleItemsOf hg rfl ?_);refine wpAny_bind ?_;rw[<-Array.forIn_toList];refine ih A.in1 t #[] _ (by simp only[Around.in1_units];exact sU (lM (uB _ 1 n)) hu) λb hb=>?_;show wpAny _ _ (retInt (Builtin.Tuple.tupleHashOf b.toList)) _ _ _;rw[hb];exact wpAny_bind (wpAny_mkInt (wpAny_pure ⟨_,_,rfl,h⟩))
 ·intro n k l v vs _ _ i1 i2 A t b Q hu h;rw[List.forIn_cons];refine wpAny_bind (wpAny_bind (i1 A t _ hu ?_));refine wpAny_bind (wpAny_pure (wpAny_pure ?_));refine i2 A _ _ Q hu λb' hb=>?_;have h:=h b' (by rw[hb,Array.toList_push,eI];rfl);have e:t+GN (k::l)=t+GL k+GN l:=(Nat.add_assoc _ _ _).symm;rw[e]at h;exact h
theorem D5(n:Nat)(x:D)(v:Value)(A:Around)(s:Shared)(Q:Bool->Shared->Prop)(k:iw n x=true)(r:RD w.params cl s.heap x v)(h:Q true s): ~~~(eqIsQuiet (n+2) v) Q E s:=by
 refine GO.rec (P:=w.params) (cl:=cl) (h:=s.heap) (motive_1:=λn _ v _=>∀Q:Bool->Shared->Prop,Q true s->~~~(eqIsQuiet (n+2) v) Q E s)
  (motive_2:=λn _ vs _=>∀Q:Option Bool×PUnit->Shared->Prop,Q (none,⟨⟩) s->~~~(forIn vs (none,PUnit.unit) λy r=>do
   let a<-eqIsQuiet (n+2) y
   if (!a)=true then pure (ForInStep.done (some false,PUnit.unit))else pure (ForInStep.yield (none,PUnit.unit))) Q E s)
  (λi _ Q h=>by rw[eqIsQuiet_byValue _ rfl];exact wpAny_pure h) (λy _ _ Q h=>by rw[eqIsQuiet_byValue _ rfl];exact wpAny_pure h) ?_ (λQ h=>wpAny_pure h) ?_ (xA (tr x n k) r) Q h
 ·intro n l a vs g _ ih Q h;have hT:s.TypeIs (.ref a) "tuple":=⟨_,g,rfl⟩;unfold eqIsQuiet;refine wpAny_bind (wpAny_specialOf hT F.slot_tuple_eq.lookup ?_);show wpAny _ _ (isInstance (.ref a) (.type "tuple")>>=_) _ _ s;refine wpAny_bind (wpAny_isInstance hT isSubtype_tuple_tuple ?_);simp only[Bool.not_true,we,if_false];refine wpAny_bind (wpAny_seqItems g rfl ?_);refine wpAny_bind ?_;show wpAny _ _ (forIn vs _ _) _ _ s;rw[<-Array.forIn_toList];exact ih _ (wpAny_pure h)
 ·intro n a l v vs _ _ i1 i2 Q h;rw[List.forIn_cons];exact wpAny_bind (wpAny_bind (i1 _ (wpAny_pure (i2 Q h))))
end
theorem j4(n:Nat)(x:D)(h:iw n x=true):qv x=true/\dj x<=n:=
 Ky.rec (motive_1:=λn x _=>qv x=true/\dj x<=n) (motive_2:=λn l _=>lN l=true/\dY l<=n)
  (λ_=>⟨rfl,eJ _⟩) (λ_=>⟨rfl,eJ _⟩) (λ_ ih=>⟨ih.1,oh ih.2⟩) ⟨rfl,eJ _⟩
  (λ{n d l} _ _ a b=>⟨by show(qv d&&lN l)=true;rw[a.1,b.1];rfl,Nat.max_le.mpr ⟨a.2,b.2⟩⟩) (tr x n h)
theorem GQ(n m:Nat)(x y:D)(hx:iw n x=true)(hy:iw m y=true)(e:bc x y=true):x=y:=
 Ky.rec (motive_1:=λn x _=>∀m y,Ky m y->bc x y=true->x=y) (motive_2:=λn x _=>∀m y,Sv m y->kc x y=true->x=y)
  (λi m y hy e=>by
   cases hy with
   |int j=>rw[cj (show(i==j)=true from e)]
   |_=>exact noB e)
  (λi m y hy e=>by
   cases hy with
   |str j=>rw[cj (show(i==j)=true from e)]
   |_=>exact noB e)
  (λ_ ih m y hy e=>by
   cases hy with
   |tup h=>rw[ih _ _ h e]
   |_=>exact noB e)
  (λm y hy e=>by
   cases hy with
   |nil=>rfl
   |_=>exact noB e)
  (λ_ _ i1 i2 m y hy e=>by
   cases hy with
   |nil=>exact noB e
   |cons a b=>
    have e:=jJ.mp e;rw[i1 _ _ a e.1,i2 _ _ b e.2]) (tr x n hx) m y (tr y m hy) e
theorem pd(n:Nat)(x:D)(h:iw n x=true):bc x x=true:=
 Ky.rec (motive_1:=λn x _=>bc x x=true) (motive_2:=λn l _=>kc l l=true)
  (λi=>beq_self_eq_true i) (λs=>beq_self_eq_true s) (λ_ ih=>ih) rfl (λ{n d l} _ _ a b=>by show(bc d d&&kc l l)=true;rw[a,b];rfl) (tr x n h)
theorem kN{x y:D}(hx:keyOk x=true)(hy:keyOk y=true):bc x y=true<->x=y:=
 ⟨GQ 6 6 x y hx hy,λe=>e▸pd 6 x hx⟩
end
noncomputable instance decD:DecidableEq D:=λa b=>Classical.propDecidable (a=b)
section
variable{E:Value->Shared->Prop}{cl:Nat->Addr}
def kD(prog:Program)(w:World)(cl:Nat->Addr):HeapKind prog w D where
 is:=λh k a=>keyOk k=true/\RD w.params cl h k (.ref a)
 hash:=ja w.params
 draws:=GL
 room:=λA=>A.units+60<cLine
 inj:=λhx hy=>J4 6 6 _ _ _ hx.1 hy.1 hx.2 hy.2
 keeps:=λx ho hd hs=>⟨x.1,GP ho hd hs 6 _ _ x.1 x.2⟩
 pyHash:=λhu hk h=>xB _ 6 _ _ _ _ hk.1 hk.2 (by omega) h
 eqBool:=λ{A E s x y a b Q} hu hx hy h=>by
  obtain⟨⟨as,r1⟩,c1⟩:=hx.2.reads (j4 6 _ hx.1).1;obtain⟨⟨bs,r2⟩,c2⟩:=hy.2.reads (j4 6 _ hy.1).1;refine SeqAt.eqBoolOverData _ _ _ _ _ _ _ _ _ _ _ _ r1 r2 c1 c2 ?_ ?_
  ·rw[eS _ (j4 6 _ hx.1).1,eS _ (j4 6 _ hy.1).1];have:=(j4 6 _ hx.1).2;exact sU (eU (aW (Nat.min_le_left _ _) (aW this ∅)) _) hu
  ·rw[rN _ _ (j4 6 _ hx.1).1 (j4 6 _ hy.1).1];have:bc x y=decide (x=y):=by rw[jd,kN hx.1 hy.1,dK]
   rw[this];exact h
 quiet:=λhk h=>D5 6 _ _ _ _ _ hk.1 hk.2 h
def addrOf:Value->Addr
 | .ref a=>a
 |_=>0
def xC:List (D×D)->List DictEntry->List (D×Addr×Value)
 |(k,_)::r,e::t=>(k,addrOf e.key,e.val)::xC r t
 |_,_=>[]
theorem GR{P:Params}{h:Heap}{k:D}{v:Value}(hk:cy k=3)(r:RD P cl h k v):v= .ref (addrOf v):=by
 cases k<;>first|change hk|skip
 obtain⟨a,vs,rfl,_⟩:=r;rfl
theorem rO{h:Heap}:∀{l:List (D×D)} {es:List DictEntry},J2 w.params cl h l es->(∀p∈l,cy p.1=3)->es=(xC l es).map (entryOfKey (kD prog w cl))
 |[],[],_,_=>rfl
 |(k,x)::r,e::t,q,hk=>by dsimp only[xC];rw[kg,<-rO q.2 λp hp=>hk p (.tail _ hp)];congr 1;obtain⟨hs,key,val⟩:=e;have:=GR (hk _ (.head _)) q.1.2.1;have h1:=q.1.1;rw[h1];congr 1
 |[],_::_,q,_=>by exact q.elim
 |(_,_)::_,[],q,_=>by exact q.elim
theorem AP{h:Heap}:∀{l:List (D×D)} {es:List DictEntry},J2 w.params cl h l es->(xC l es).map (·.1)=l.map (·.1)
 |[],[],_=>rfl
 |(k,x)::r,e::t,q=>by dsimp only[xC];rw[kg,kg,AP q.2]
 |[],_::_,q=>by exact q.elim
 |(_,_)::_,[],q=>by exact q.elim
theorem L_{h:Heap}:∀{l:List (D×D)} {es:List DictEntry},J2 w.params cl h l es->(∀p∈l,keyOk p.1=true)->(∀p∈l,cy p.1=3)->∀x∈xC l es,(kD prog w cl).is h x.1 x.2.1
 |[],[],_,_,_=>λx hx=>by cases hx
 |(k,y)::r,e::t,q,ok,hk=>by
  dsimp only[xC];intro x hx;rcases dJ.mp hx with rfl|hx
  ·exact⟨ok _ (.head _),GR (hk _ (.head _)) q.1.2.1▸q.1.2.1⟩
  ·exact L_ q.2 (λp hp=>ok p (.tail _ hp)) (λp hp=>hk p (.tail _ hp)) x hx
 |[],_::_,q,_,_=>by exact q.elim
 |(_,_)::_,[],q,_,_=>by exact q.elim
theorem kj.nodup{l:List (D×D)}(ok:kj l):(l.map (·.1)).Nodup:=by obtain⟨k,_,a⟩:=ok;rw[List.Nodup,List.pairwise_map];refine List.Pairwise.imp_of_mem (λ{x y} hx hy e z=>?_) a;rw[z,pd 6 _ (k y hy)]at e;cases e
theorem xD{h:Heap}{es:List DictEntry}{l:List (D×D)}{f:DictEntry->Bool}{g:D×D->Bool}(hf:∀p∈l,∀e:DictEntry,RD w.params cl h p.1 e.key->f e=g p)(q:J2 w.params cl h l es):es.findIdx? f=l.findIdx? g:=by
 induction l generalizing es with
 |nil=>
  cases es with
  |nil=>rfl
  |cons _ _=>exact q.elim
 |cons p r ih=>
  obtain⟨k,x⟩:=p;cases es with
  |nil=>exact q.elim
  |cons e t=>
   rw[wh,wh,hf _ (.head _) e q.1.2.1,ih (λp hp e=>hf p (.tail _ hp) e) q.2]
theorem xE{α:Type}(es:Array α)(f:α->Bool):es.findIdx? f=es.toList.findIdx? f:=by obtain⟨l⟩:=es;exact List.findIdx?_toArray ..
theorem vC{P:Params}{h:Heap}:∀{l:List (D×D)} {es:List DictEntry},J2 P cl h l es->∀e∈es,∃p∈l,e.hash=ja P p.1/\RD P cl h p.1 e.key
 |[],[],_,e,he=>by cases he
 |(a,b)::r,x::t,q,e,he=>by
  rcases dJ.mp he with rfl|he
  ·exact⟨_,.head _,q.1.1,q.1.2.1⟩
  ·obtain⟨p,hp,z⟩:=vC q.2 e he;exact⟨p,.tail _ hp,z⟩
 |[],_::_,q,_,_=>by exact q.elim
 |(_,_)::_,[],q,_,_=>by exact q.elim
theorem rP{k:D}{l:List (D×D)}(ok:kj l)(hk:jm k l=true):keyOk k=true/\∀p∈l,cy p.1=cy k:=by
 unfold jm at hk;rw[bx]at hk;refine⟨hk.1,λp hp=>?_⟩;cases l with
 |nil=>cases hp
 |cons q r=>
  have:=kh hk.2;rw[<-this];exact ok.kind p hp q (.head _)
theorem xF{x:D}(h:cy x=1):∃j,x= .int j:=by cases x<;>first|change h|exact⟨_,rfl⟩
theorem xG{x:D}(h:cy x=2):∃j,x= .str j:=by cases x<;>first|change h|exact⟨_,rfl⟩
theorem J5{k:D}{l:List (D×D)}(hk:keyOk k=true)(ok:kj l)(h:∀p∈l,p.1≠k):(l.findIdx? λp=>bc k p.1)=none:=by
 rw[List.findIdx?_eq_none_iff];intro p hp;cases z:bc k p.1 with
 |false=>rfl
 |true=>exact absurd ((kN hk (ok.key p hp)).mp z).symm (h p hp)
theorem J6{k:D}{l:List (D×D)}{j:Nat}{p:D×D}(hk:keyOk k=true)(ok:kj l)(y:l[j]?=some p)(g:k=p.1):(l.findIdx? λp=>bc k p.1)=some j:=by
 obtain⟨hj',LA⟩:=gf.mp y;rw[List.findIdx?_eq_some_iff_getElem];refine⟨hj',by rw[LA];exact(kN hk (ok.key p (qO y))).mpr g,λm hm z=>?_⟩;have yU:=Nat.lt_trans hm hj';have zz:=(kN hk (ok.key _ (List.getElem_mem yU))).mp z;have:(l.map (·.1))[m]?=(l.map (·.1))[j]?:=by rw[pR,pR,mN yU,y];exact congrArg some (zz.symm.trans g)
 exact absurd ((List.getElem?_inj (by rw[eT];exact yU) ok.nodup).mp this) (sX hm)
theorem find_key{d:Addr}{es:Array DictEntry}{n:Nat}{l:List (D×D)}{k:D}{u:Value}{Q:Option Nat->Shared->Prop}(hu:A.units+60<cLine)(hd:s.heap.get? d=some (eW es n))(hl:J2 w.params cl s.heap l es.toList)
  (ok:kj l) (hk:jm k l=true) (hr:RD w.params cl s.heap k u) (h:Q (l.findIdx? λp=>bc k p.1) s): ~~~(dictFind d u (ja w.params k)) Q E s:=by
 refine an2 (rP ok hk) λSw Sx=>?_;clear hk;cases k with
 |int i=>
  refine ex1 (show∃t,u= .int i t from hr) λt e=>?_;rw[e];rw[lF];clear hu Sw;refine wpAny_dictFind_of (knd:=intKind prog w) (k:=i) (beq_self_eq_true i) hd rfl (λe he=>?_) ?_
  ·refine ex1 (vC hl e (Array.mem_def.mp he)) λp z=>an3 z λhp e1 e2=>?_;refine ex1 (xF (Sx p hp)) λj q=>?_;rw[q]at e1 e2;refine ex1 (show∃t,e.key= .int j t from e2) λt' e2=>?_;exact⟨j,by rw[e2];exact beq_self_eq_true j,by rw[e1,lF];rfl⟩
  ·rw[xE];rw[xD (g:=λp=>bc (.int i) p.1) (λp hp e re=>?_) hl]
   ·exact h
   ·refine ex1 (xF (Sx p hp)) λj q=>?_;rw[q]at re⊢;refine ex1 (show∃t,e.key= .int j t from re) λt' e2=>?_;rw[e2];exact(BEq.comm:(j==i)=(i==j))
 |str i=>
  refine ex1 (show∃t,u= .str (nM i) t/\EI i=true from hr) λt e=>?_;refine an2 e λe _=>?_;rw[e];clear hu Sw;refine wpAny_dictFind_of (knd:=strKind prog w) (k:=nM i) (beq_self_eq_true (nM i)) hd rfl (λe he=>?_) ?_
  ·refine ex1 (vC hl e (Array.mem_def.mp he)) λp z=>an3 z λhp e1 e2=>?_;refine ex1 (xG (Sx p hp)) λj q=>?_;rw[q]at e1 e2;refine ex1 (show∃t,e.key= .str (nM j) t/\EI j=true from e2) λt' e2=>?_;exact⟨nM j,by rw[e2.1];exact beq_self_eq_true (nM j),by rw[e1];rfl⟩
  ·rw[xE];rw[xD (g:=λp=>bc (.str i) p.1) (λp hp e re=>?_) hl]
   ·exact h
   ·refine ex1 (xG (Sx p hp)) λj q=>?_;rw[q]at re⊢;refine ex1 (show∃t,e.key= .str (nM j) t/\EI j=true from re) λt' e2=>?_;rw[e2.1];exact(BEq.comm:(nM j==nM i)=(nM i==nM j)).trans (AO i j)
 |tup i=>
  have hk3:∀p∈l,cy p.1=3:=Sx;have e3:=GR (k:= .tup i) rfl hr;rw[e3]at hr⊢;clear e3 Sx;have xk:=AP hl;have hx:=rO (prog:=prog) hl hk3;have xi:=L_ (prog:=prog) hl ok.key hk3;clear hl;generalize xC l es.toList=X at xk hx xi⊢;have get:∀(j:Nat),X[j]?.map (·.1)=(l[j]?).map (·.1):=λj=>by rw[<-pR,<-pR,xk]
  refine wpAny_dictFind_heap (knd:=kD prog w cl) (k:= .tup i) (xs:=X) hu ⟨Sw,hr⟩ hd rfl hx xi (by rw[xk];exact ok.nodup) (λhno=>?_) λj q hj=>?_
  ·rw[J5 Sw ok λp hp z=>?_]at h
   ·exact h
   ·refine ex1 (List.mem_iff_getElem?.mp hp) λj hj=>?_;have g:=get j
    replace g:=hj▸g
    cases y:X[j]? with
    |none=>rw[y]at g;exact noS g
    |some q=>
     rw[y]at g;have g:q.1=p.1:=fh g;exact hno j q.2 (by rw[y,<-z,<-g])
  ·have g:=get j;rw[hj]at g;cases y:l[j]? with
   |none=>rw[y]at g;exact noS g.symm
   |some p=>
    rw[y]at g;rw[J6 Sw ok y (fh g)]at h;exact h
 |_=>exact noB Sw
end
theorem pf(k:D):∀l:List (D×D),kA k l=(l.findIdx? λp=>bc k p.1).bind λi=>(l[i]?).map (·.2)
 |[]=>rfl
 |(a,v)::r=>by
  dsimp only[kA];rw[wh];cases h:bc k a with
  |true=>simp
  |false=>
   simp only[we,if_false];rw[pf k r];cases List.findIdx? (λp=>bc k p.1) r<;>simp
theorem pg(k:D):∀l:List (D×D),fM k l=(l.findIdx? λp=>bc k p.1).isSome
 |[]=>rfl
 |(a,v)::r=>by
  dsimp only[fM];rw[wh];cases h:bc k a with
  |true=>simp
  |false=>
   simp only[we,if_false,Bool.false_or];rw[pg k r];cases List.findIdx? (λp=>bc k p.1) r<;>simp
theorem ua{k x:D}:∀{l:List (D×D)},(l.findIdx? λp=>bc k p.1)=none->dput k x l=l++[(k,x)]
 |[],_=>rfl
 |(a,v)::r,h=>by
  replace h:=wh▸h
  dsimp only[uM];cases z:bc k a with
  |true=>rw[z]at h;simp at h
  |false=>
   rw[z]at h;simp only[we,if_false]at h⊢;rw[ua (l:=r) (by simpa using h)];rfl
theorem rQ{k:D}:∀{l:List (D×D)} {i:Nat},(l.findIdx? λp=>bc k p.1)=some i->mi k l=l.eraseIdx i
 |[],_,h=>by simp at h
 |(a,v)::r,i,h=>by
  rw[wh]at h;dsimp only[mi];cases z:bc k a with
  |true=>rw[z]at h;simp at h;subst h;simp
  |false=>
   rw[z]at h;simp only[we,if_false]at h⊢;obtain⟨j,hj,QB⟩:=ET.mp h;rw[<-QB];rw[rQ hj];rfl
theorem nO{k x:D}:∀{l:List (D×D)} {p:D×D},p∈dput k x l->p.1=k\/∃q∈l,p.1=q.1
 |[],p,h=>by
  have h:p∈[(k,x)]:=h;rcases dJ.mp h with rfl|h
  ·exact .inl rfl
  ·cases h
 |(a,v)::r,p,h=>by
  dsimp only[uM]at h;split at h
  ·rcases dJ.mp h with rfl|h
   ·exact .inr ⟨_,.head _,rfl⟩
   ·exact .inr ⟨p,.tail _ h,rfl⟩
  ·rcases dJ.mp h with rfl|h
   ·exact .inr ⟨_,.head _,rfl⟩
   ·rcases nO h with e|⟨q,hq,e⟩
    ·exact .inl e
    ·exact .inr ⟨q,.tail _ hq,e⟩
theorem tu{x y:D}(hx:keyOk x=true)(hy:keyOk y=true)(h:bc x y=false):bc y x=false:=by
 cases z:bc y x with
 |false=>rfl
 |true=>rw[(kN hy hx).mp z,pd 6 x hx]at h;cases h
theorem rR{k x:D}(hk:keyOk k=true):∀{l:List (D×D)},(∀p∈l,keyOk p.1=true)->(l.Pairwise λp q=>bc p.1 q.1=false)->(dput k x l).Pairwise λp q=>bc p.1 q.1=false
 |[],_,_=>List.pairwise_singleton _ _
 |(a,v)::r,ok,h=>by
  dsimp only[uM];rw[yC]at h;split
  ·rw[yC];exact h
  ·rename_i z;rw[Bool.not_eq_true]at z;rw[yC];refine⟨λq hq=>?_,rR hk (λp hp=>ok p (.tail _ hp)) h.2⟩;rcases nO hq with e|⟨q',hq',e⟩
   ·rw[e];exact tu hk (ok _ (.head _)) z
   ·rw[e];exact h.1 q' hq'
theorem kj.put{k x:D}{l:List (D×D)}(ok:kj l)(h:jm k l=true):kj (dput k x l):=by
 obtain⟨h1,h2⟩:=rP ok h;refine⟨λp hp=>?_,λp hp q hq=>?_,rR h1 ok.key ok.apart⟩
 ·rcases nO hp with e|⟨q,hq,e⟩<;>rw[e]
  ·exact h1
  ·exact ok.key q hq
 ·have:∀p∈dput k x l,cy p.1=cy k:=λp hp=>by rcases nO hp with e|⟨q,hq,e⟩<;>rw[e];exact h2 q hq
  rw[this p hp,this q hq]
theorem kO{k:D}:∀(l:List (D×D)),(mi k l).Sublist l
 |[]=> .slnil
 |(a,v)::r=>by
  dsimp only[mi];split
  ·exact List.sublist_cons_self _ _
  ·exact(kO r).cons_cons _
theorem kj.del{k:D}{l:List (D×D)}(ok:kj l):kj (mi k l):=
 ⟨λp hp=>ok.key p ((kO l).subset hp),λp hp q hq=>ok.kind p ((kO l).subset hp) q ((kO l).subset hq),ok.apart.sublist (kO l)⟩
theorem kj.nil:kj []:=⟨λ_ h=>(nomatch h),λ_ h=>(nomatch h),List.Pairwise.nil⟩
section
variable{P:Params}{cl:Nat->Addr}{ρ:bU}
theorem gb.modify{k x:D}{v:Value}(hv:VR P cl ρ x v):∀{l:List (D×D)} {es:List DictEntry} {i:Nat},gb P cl ρ l es->(l.findIdx? λp=>bc k p.1)=some i->
  gb P cl ρ (dput k x l) (es.modify i λe=>{e with val:=v})
 |[],_,_,_,h=>by simp at h
 |(a,b)::r,[],_,q,_=>by exact q.elim
 |(a,b)::r,e::t,i,q,h=>by
  rw[wh]at h;dsimp only[uM];cases z:bc k a with
  |true=>
   rw[z]at h;simp at h;subst h;simp only[if_true,List.modify_zero_cons];exact⟨⟨q.1.1,q.1.2.1,hv⟩,q.2⟩
  |false=>
   rw[z]at h;simp only[we,if_false]at h⊢;obtain⟨j,hj,zq28⟩:=ET.mp h;rw[<-zq28];rw[List.modify_succ_cons];exact⟨q.1,gb.modify hv q.2 hj⟩
theorem gb.erase:∀{l:List (D×D)} {es:List DictEntry} (i:Nat),gb P cl ρ l es->gb P cl ρ (l.eraseIdx i) (es.eraseIdx i)
 |[],[],_,_=>trivial
 |(a,b)::r,[],_,q=>by exact q.elim
 |[],_::_,_,q=>by exact q.elim
 |(a,b)::r,e::t,0,q=>by exact q.2
 |(a,b)::r,e::t,i+1,q=>by show gb P cl ρ ((a,b)::r.eraseIdx i) (e::t.eraseIdx i);exact⟨q.1,gb.erase i q.2⟩
end
section
variable{E:Value->Shared->Prop}{cl:Nat->Addr}{ρ:bU}{d:Addr}{es:Array DictEntry}{n:Nat}{l:List (D×D)}{k:D}{u:Value}
structure Ask (w:World) (cl:Nat->Addr) (ρ:bU) (A:Around) (s:Shared) (d:Addr) (es:Array DictEntry) (n:Nat) (l:List (D×D)) (k:D) (u:Value):Prop where
 bB:∀a o,ρ a= .bB o->s.heap.get? a=some o
 room:A.units+70<cLine
 at_:s.heap.get? d=some (eW es n)
 are:gb w.params cl ρ l es.toList
 ok:kj l
 jm:jm k l=true
 key:VR w.params cl ρ k u
 sys:d≠sysModules
theorem Ask.in1(a:Ask w cl ρ A s d es n l k u)(h:A.units+71<cLine):Ask w cl ρ A.in1 s d es n l k u:=⟨a.bB,by simp only[Around.in1_units];omega,a.at_,a.are,a.ok,a.jm,a.key,a.sys⟩
theorem Ask.type(a:Ask w cl ρ A s d es n l k u):s.TypeIs (.ref d) "dict":=⟨_,a.at_,rfl⟩
def Got(P:Params)(cl:Nat->Addr)(ρ:bU)(l:List (D×D))(k:D)(r:Option Value):Prop:=match kA k l with
 |some x=>∃v,r=some v/\VR P cl ρ x v
 |none=>r=none
theorem Ask.hash(a:Ask w cl ρ A s d es n l k u){Q:Int->Shared->Prop}(h:Q (ja w.params k) {s with toks:=s.toks+GL k}): ~~~(pyHash u) Q E s:=
 xB k 6 u A s Q (rP a.ok a.jm).1 (a.key.rd a.bB) (by have:=a.room;omega) h
theorem Ask.find(a:Ask w cl ρ A s d es n l k u){t:Nat}{Q:Option Nat->Shared->Prop}(h:Q (l.findIdx? λp=>bc k p.1) {s with toks:=t}): ~~~(dictFind d u (ja w.params k)) Q E {s with toks:=t}:=
 find_key (by have:=a.room;omega) a.at_ (a.are.rd a.bB) a.ok a.jm (a.key.rd a.bB) h
theorem Ask.entry(a:Ask w cl ρ A s d es n l k u){i:Nat}(h:(l.findIdx? λp=>bc k p.1)=some i):∃k' x e,l[i]?=some (k',x)/\es[i]?=some e/\VR w.params cl ρ x e.val:=by have hi:=(List.findIdx?_eq_some_iff_getElem.mp h).1;obtain⟨e,h1,_,_,h2⟩:=a.are.get (i:=i) (k:=(l[i]).1) (x:=(l[i]).2) (mN hi);exact⟨_,_,e,mN hi,by rw[<-h1];simp,h2⟩
theorem Ask.get(a:Ask w cl ρ A s d es n l k u){Q:Option Value->Shared->Prop}(h:∀r t,Got w.params cl ρ l k r->Q r {s with toks:=t}): ~~~(dictGet d u) Q E s:=by
 unfold dictGet;try with_reducible refine wpAny_holding ?_
 refine wpAny_bind (a.hash (wpAny_bind (a.find ?_)));have g:=pf k l;cases hi:l.findIdx? (λp=>bc k p.1)with
 |none=>
  rw[hi]at g;exact wpAny_pure (h none _ (by unfold Got;rw[g];rfl))
 |some i=>
  replace g:=hi▸g
  obtain⟨k',x,e,h1,h2,h3⟩:=a.entry hi;refine wpAny_bind (wpAny_dictEntries (s:={s with toks:=s.toks+GL k}) a.at_ rfl ?_);rw[h2];refine wpAny_pure (h (some e.val) _ ?_);unfold Got;rw[g,Option.bind_some,h1];exact⟨_,rfl,h3⟩
theorem dh{α:Type}{l:List α}(h:fits l=true):l.length<=1000000:=g5 h
theorem xH:(1000001:Nat)<=sizeLine:=by decide
theorem Ask.size(a:Ask w cl ρ A s d es n l k u):es.size=l.length:=by rw[a.are.length,Array.length_toList]
theorem Ask.set(a:Ask w cl ρ A s d es n l k u){x:D}{v:Value}(hv:VR w.params cl ρ x v)(hz:fits l=true){Q:Unit->Shared->Prop}
  (h:∀h' t vD n',h'.get? d=some (eW vD n')->Heap.SameBut d s.heap h'->gb w.params cl ρ (dput k x l) vD.toList->Q () {s with heap:=h',toks:=t}): ~~~(dictSet d u v) Q E s:=by
 have hes:es.size<=sizeLine:=by rw[a.size];have:=dh hz;have:=xH;omega
 unfold dictSet;try with_reducible refine wpAny_holding ?_
 refine wpAny_bind (a.hash ?_);unfold dictSetHashed;try with_reducible refine wpAny_holding ?_
 refine wpAny_bind (a.find ?_);cases hi:l.findIdx? (λp=>bc k p.1)with
 |some i=>
  refine wpAny_bind (wpAny_rule (wpAny_bind (wpAny_updateDict (s:={s with toks:=s.toks+GL k}) a.at_ rfl (wpAny_point ?_))));refine h _ _ (es.modify i λe=>{e with val:=v}) n (Heap.get?_update_self _ a.at_ rfl) (Heap.SameBut.update ..) ?_;rw[Array.toList_modify];exact a.are.modify hv hi
 |none=>
  refine wpAny_bind (wpAny_rule (wpAny_updateDictKeys (hz:=hes) (s:={s with toks:=s.toks+GL k}) a.at_ rfl ?_));refine h _ _ (es.push ⟨ja w.params k,u,v⟩) (n+1) (Heap.get?_update_self _ a.at_ rfl) (Heap.SameBut.update ..) ?_;rw[ua hi,Array.toList_push];refine a.are.append ?_;exact⟨⟨rfl,a.key,hv⟩,trivial⟩
theorem Ask.take(a:Ask w cl ρ A s d es n l k u)(hh:fM k l=true)(hz:fits l=true){Q:Option DictEntry->Shared->Prop}
  (h:∀e h' t vD n',h'.get? d=some (eW vD n')->Heap.SameBut d s.heap h'->gb w.params cl ρ (mi k l) vD.toList->Q (some e) {s with heap:=h',toks:=t}): ~~~(Builtin.Dict.takeOut d u) Q E s:=by
 have hes:es.size<=sizeLine:=by rw[a.size];have:=dh hz;have:=xH;omega
 unfold Builtin.Dict.takeOut;try with_reducible refine wpAny_holding ?_
 refine wpAny_bind (a.hash (wpAny_bind (a.find ?_)));rw[pg]at hh;obtain⟨i,hi⟩:=yx.mp hh;rw[hi];obtain⟨k',x,e,h1,h2,h3⟩:=a.entry hi;refine wpAny_bind (wpAny_dictEntries (s:={s with toks:=s.toks+GL k}) a.at_ rfl ?_);rw[h2];refine wpAny_bind (wpAny_updateDictKeys (hz:=hes) (s:={s with toks:=s.toks+GL k}) a.at_ rfl (wpAny_pure ?_));refine h e _ _ (es.eraseIdxIfInBounds i) (n+1) (Heap.get?_update_self _ a.at_ rfl) (Heap.SameBut.update ..) ?_;rw[rQ hi];have:(es.eraseIdxIfInBounds i).toList=es.toList.eraseIdx i:=by obtain⟨l⟩:=es;simp
 rw[this];exact a.are.erase i
theorem qJ{d:Addr}(h:d≠sysModules):(d==sysModules)=false:=by simpa using h
theorem Ask.contains(a:Ask w cl ρ A s d es n l k u)(hu:A.units+71<cLine){Q:Bool->Shared->Prop}(h:∀t,Q (fM k l) {s with toks:=t}): ~~~(PySem.contains (.ref d) u) Q E s:=by
 unfold PySem.contains;try with_reducible refine wpAny_holding ?_
 refine wpAny_bind (wpAny_specialOf a.type PySem.slot_dict_contains.lookup ?_);show wpAny _ _ (if (some (Value.builtin "dict.__contains__")==some Value.none)=true then _ else _) _ E s;rw[if_neg (by rw[beq_builtin_none];exact Bool.false_ne_true)];refine wpAny_bind (wpAny_callSpecialUnlessNone?_slot (name:=Str.ofString "__contains__") a.type PySem.slot_dict_contains
  (wpAny_call_entry PySem.slot_dict_contains a.type PySem.entry_dict_contains ?_ (PySem.args_dict_contains _ _)))
 show wpAny _ _ (dictGet d u>>=_) _ _ s;refine wpAny_bind ((a.in1 hu).get λr t g=>?_);have e:r.isSome=fM k l:=by
  unfold Got at g;rw[pg];rw[pf]at g;cases hi:l.findIdx? (λp=>bc k p.1)with
  |none=>rw[hi]at g;rw[g];rfl
  |some i=>
   rw[hi]at g;obtain⟨k',x,e,h1,h2,h3⟩:=a.entry hi;rw[Option.bind_some,h1]at g;obtain⟨v,rfl,_⟩:=g;rfl
 have h:=h t
 replace h:=e.symm▸h
 cases r with
 |some p=>
  show wpAny _ _ (ret (.bool true)) _ _ _;exact wpAny_pure ⟨_,rfl,wpAny_truthy_bool h⟩
 |none=>
  show wpAny _ _ (Builtin.Dict.pendingKey? d u>>=_) _ _ _;exact wpAny_bind (wpAny_pendingKey_other (qJ a.sys) (wpAny_pure ⟨_,rfl,wpAny_truthy_bool h⟩))
theorem Ask.in_(a:Ask w cl ρ A s d es n l k u)(hu:A.units+71<cLine){Q:Value->Shared->Prop}(h:∀t,Q (.bool (fM k l)) {s with toks:=t}): ~~~(compareOp .In u (.ref d)) Q E s:=by show wpAny _ _ (do return .bool (<-PySem.contains (.ref d) u)) Q E s;exact wpAny_bind (a.contains hu λt=>wpAny_pure (h t))
theorem Ask.WM(a:Ask w cl ρ A s d es n l k u)(hu:A.units+71<cLine){Q:Value->Shared->Prop}(h:∀t,Q (.bool (!fM k l)) {s with toks:=t}): ~~~(compareOp .NotIn u (.ref d)) Q E s:=by show wpAny _ _ (do return .bool (!(<-PySem.contains (.ref d) u))) Q E s;exact wpAny_bind (a.contains hu λt=>wpAny_pure (h t))
theorem Ask.item(a:Ask w cl ρ A s d es n l k u)(hu:A.units+71<cLine){x:D}(hx:kA k l=some x){Q:Value->Shared->Prop}(h:∀v t,VR w.params cl ρ x v->Q v {s with toks:=t}): ~~~(getItem (.ref d) u) Q E s:=by
 dsimp only[getItem];try with_reducible refine wpAny_holding ?_
 first|refine wpAny_bind (wpAny_pure ?_)|skip
 refine wpAny_bind (wpAny_sequenceKey a.type ∅ ?_);refine wpAny_bind (wpAny_callSpecial?_slot (name:=Str.ofString "__getitem__") a.type PySem.slot_dict_getitem
  (wpAny_call_entry PySem.slot_dict_getitem a.type PySem.entry_dict_getitem ?_ (PySem.args_dict_getitem _ _)))
 show wpAny _ _ (dictGet d u>>=_) _ _ s;refine wpAny_bind ((a.in1 hu).get λr t g=>?_);unfold Got at g;rw[hx]at g;obtain⟨v,rfl,hv⟩:=g;exact wpAny_pure ⟨v,rfl,wpAny_pure (h v t hv)⟩
theorem Ask.setItem(a:Ask w cl ρ A s d es n l k u)(hu:A.units+71<cLine){x:D}{v:Value}(hv:VR w.params cl ρ x v)(hz:fits l=true){Q:Unit->Shared->Prop}
  (h:∀h' t vD n',h'.get? d=some (eW vD n')->Heap.SameBut d s.heap h'->gb w.params cl ρ (dput k x l) vD.toList->Q () {s with heap:=h',toks:=t}): ~~~(PySem.setItem (.ref d) u v) Q E s:=by
 unfold PySem.setItem;try with_reducible refine wpAny_holding ?_
 first|refine wpAny_bind (wpAny_pure ?_)|skip
 refine wpAny_bind (wpAny_sequenceKey a.type ∅ ?_);refine wpAny_bind (wpAny_callSpecial?_slot (name:=Str.ofString "__setitem__") a.type PySem.slot_dict_setitem
  (wpAny_call_entry PySem.slot_dict_setitem a.type PySem.entry_dict_setitem ?_ (PySem.args_dict_setitem _ _ _)))
 show wpAny _ _ (Builtin.Dict.notOrdered "__setitem__" ⟨[.ref d,u,v],[]⟩>>=_) _ _ s;refine wpAny_bind (wpAny_notOrdered_dict a.type ?_);show wpAny _ _ (dictSet d u v>>=_) _ _ s;exact wpAny_bind ((a.in1 hu).set hv hz λh' t vD n' g1 g2 g3=>wpAny_pure ⟨.none,rfl,wpAny_pure (h h' t vD n' g1 g2 g3)⟩)
theorem Ask.delItem(a:Ask w cl ρ A s d es n l k u)(hu:A.units+71<cLine)(hh:fM k l=true)(hz:fits l=true){Q:Unit->Shared->Prop}
  (h:∀h' t vD n',h'.get? d=some (eW vD n')->Heap.SameBut d s.heap h'->gb w.params cl ρ (mi k l) vD.toList->Q () {s with heap:=h',toks:=t}): ~~~(PySem.delItem (.ref d) u) Q E s:=by
 unfold PySem.delItem;try with_reducible refine wpAny_holding ?_
 refine wpAny_bind (wpAny_sequenceKey a.type ∅ ?_);refine wpAny_bind (wpAny_callSpecial?_slot (name:=Str.ofString "__delitem__") a.type PySem.F.slot_dict_delitem
  (wpAny_call_entry PySem.F.slot_dict_delitem a.type PySem.F.entry_dict_delitem ?_ (PySem.F.args_dict_delitem_2 _ _)))
 refine wpAny_bind ?_;refine wpAny_bind (wpAny_notOrdered_dict a.type ?_);show wpAny _ _ (pure (Value.ref d,u)) _ _ s;refine wpAny_pure ?_;show wpAny _ _ (Builtin.Dict.takeOut d u>>=_) _ _ s;refine wpAny_bind ((a.in1 hu).take hh hz λe h' t vD n' g1 g2 g3=>?_);exact wpAny_bind (wpAny_letGo (wpAny_pure ⟨.none,rfl,wpAny_pure (h h' t vD n' g1 g2 g3)⟩))
end
theorem WN{t:TO}{l}(h:toD t=some (.lst l)):t= .list l:=by cases t<;>cases h;rfl
theorem WO{t:TO}{l}(h:toD t=some (.gT l)):t= .dict l:=by cases t<;>cases h;rfl
theorem Ma{t:TO}{l}(h:Ui t=some l):t= .list l:=by cases t<;>cases h;rfl
theorem Mb{t:MO}{l}(h:IG t=some l):t= .list l:=by cases t<;>cases h;rfl
theorem Mc{t:TO}{l}(h:Uj t=some l):t= .dict l:=by cases t<;>cases h;rfl
theorem Md{t:MO}{l}(h:Ln t=some l):t= .dict l:=by cases t<;>cases h;rfl
theorem WQ{t:MO}{l}(h:H0 t=some (.lst l)):t= .list l:=by cases t<;>cases h;rfl
theorem WR{t:MO}{l}(h:H0 t=some (.gT l)):t= .dict l:=by cases t<;>cases h;rfl
section
variable{T:bk}{ρ:bU}{L:Lo}{σ:PS}{h:Heap}
theorem ei(R:Rep T ρ L σ h){v:PV}{u:Value}{l:List D}(p:cv T ρ L v u)(e:σ.pA v=some (.lst l)):∃a vs k,u= .ref a/\h.get? a=some (gW vs k)/\dB T.P T.cl ρ l vs.toList:=by
 cases v with
 |d x=>
  simp! [nZ]at e;subst e
  have p:VR T.P T.cl ρ (.lst l) u:=p;obtain⟨a,vs,n,zq22,i,r⟩:=p;rw[zq22];exact⟨a,vs,n,rfl,R.bB i,r⟩
 |aI n=>
  obtain⟨p1,rfl⟩:=p;refine aL e λx q e=>?_;cases WN e;obtain⟨_,vs,k,g,r⟩:=R.aI n _ q;exact⟨_,vs,k,rfl,g,r⟩
 |ax n=>
  obtain⟨p1,rfl⟩:=p;refine aL e λx q e=>?_;cases WQ e;obtain⟨_,vs,k,g,r⟩:=R.ax n _ q;exact⟨_,vs,k,rfl,g,r⟩
theorem nR(R:Rep T ρ L σ h){v:PV}{u:Value}{l:List D}(p:cv T ρ L v u)(e:σ.pA v=some (.tup l)):∃a vs,u= .ref a/\h.get? a=some (lW vs)/\dB T.P T.cl ρ l vs.toList:=by
 cases v with
 |d x=>
  simp! [nZ]at e;subst e
  have p:VR T.P T.cl ρ (.tup l) u:=p;obtain⟨a,vs,rfl,i,r⟩:=p;exact⟨a,vs,rfl,R.bB i,r⟩
 |aI n=>obtain⟨x,_,e⟩:=gK e;cases x<;>cases e
 |ax n=>obtain⟨x,_,e⟩:=gK e;cases x<;>cases e
theorem gP(R:Rep T ρ L σ h){v:PV}{u:Value}{l:List (D×D)}(p:cv T ρ L v u)(e:σ.pA v=some (.gT l)):∃a es k,u= .ref a/\h.get? a=some (eW es k)/\gb T.P T.cl ρ l es.toList/\a≠sysModules/\kj l:=by
 cases v with
 |d x=>
  simp! [nZ]at e;subst e
  have p:VR T.P T.cl ρ (.gT l) u:=p;obtain⟨a,es,n,zq51,i,r,z⟩:=p;rw[zq51];exact⟨a,es,n,rfl,R.bB i,r,z⟩
 |aI n=>
  obtain⟨p1,rfl⟩:=p;refine aL e λx q e=>?_;cases WO e;obtain⟨_,z,es,k,g,r⟩:=R.aI n _ q;exact⟨_,es,k,rfl,g,r,z⟩
 |ax n=>
  obtain⟨p1,rfl⟩:=p;refine aL e λx q e=>?_;cases WR e;obtain⟨_,z,es,k,g,r⟩:=R.ax n _ q;exact⟨_,es,k,rfl,g,r,z⟩
theorem pL(R:Rep T ρ L σ h){v:PV}{u:Value}{x:D}(p:cv T ρ L v u)(e:σ.pA v=some x)(hl:∀l,x≠.lst l)(hd:∀l,x≠.gT l):VR T.P T.cl ρ x u:=by
 cases v with
 |d y=>simp! [nZ]at e;subst e;exact p
 |aI n=>
  refine aL e λy _ e=>?_;cases y<;>cases e
  ·exact absurd rfl (hl _)
  ·exact absurd rfl (hd _)
 |ax n=>
  refine aL e λy _ e=>?_;cases y<;>cases e
  ·exact absurd rfl (hl _)
  ·exact absurd rfl (hd _)
theorem Rep.nS(R:Rep T ρ L σ h):∀a o,ρ a= .bB o->h.get? a=some o:=λa o e=>R.bB e
theorem kP(R:Rep T ρ L σ h){v:PV}{u:Value}{x:D}(p:cv T ρ L v u)(e:σ.pA v=some x):RD T.P T.cl h x u:=by
 cases x with
 |lst l=>
  obtain⟨a,vs,k,zq83,g,r⟩:=ei R p e;rw[zq83];exact⟨a,vs,k,rfl,g,dB.rd R.nS r⟩
 |gT l=>
  obtain⟨a,es,k,zq87,g,r,z⟩:=gP R p e;rw[zq87];exact⟨a,es,k,rfl,g,gb.rd R.nS r,z⟩
 |_=>exact VR.rd R.nS (pL R p e (λl z=>by cases z) (λl z=>by cases z))
end
theorem gF{h:Heap}{a:Addr}{vs:Array Value}{k:Nat}(g:h.get? a=some (gW vs k)):h.IsList a vs:=⟨_,g,rfl,k,rfl⟩
theorem mz{h:Heap}{a:Addr}{vs:Array Value}(g:h.get? a=some (lW vs)):h.IsTuple a vs:=⟨_,g,rfl,0,rfl⟩
theorem rS{h:Heap}{a:Addr}{vs:Array Value}(g:h.get? a=some (lW vs)):IsTup h a vs:=⟨_,g,rfl,0,rfl⟩
theorem dB.at{P:Params}{cl:Nat->Addr}{ρ:bU}{l:List D}{vs:Array Value}(r:dB P cl ρ l vs.toList){i:Nat}{x:D}(e:l[i]?=some x):∃v,vs[i]?=some v/\VR P cl ρ x v:=by obtain⟨v,h1,h2⟩:=r.get e;exact⟨v,by rw[<-h1];simp,h2⟩
theorem dB.size{P:Params}{cl:Nat->Addr}{ρ:bU}{l:List D}{vs:Array Value}(r:dB P cl ρ l vs.toList):vs.size=l.length:=by rw[r.length,Array.length_toList]
theorem WU(slice:Expr)(o i:Value):∃ops,subscripted slice false o i=operate ops (getItem o i):=by
 cases slice<;>first|exact⟨_,rfl⟩|skip
 rename_i a b st p;cases st<;>exact⟨_,rfl⟩
section
variable{E:Value->Shared->Prop}{T:bk}{ρ:bU}{L:Lo}{σ:PS}
theorem xI{i:Int}(h:small i=true):-(2^63)<=i/\i<2^63:=by have h:=oA.mp h;unfold big at h;exact⟨Int.le_of_lt (Int.lt_of_le_of_lt (by decide+kernel) h.1),Int.lt_trans h.2 (by decide+kernel)⟩
theorem QC{j:Int}{n:Nat}(h:j<0)(g:0<=j+n):seqIndex? j n=some (j+n).toNat:=by unfold seqIndex?;dsimp only;rw[if_pos h,if_pos];rw[ed g,ed (by have:=Int.add_lt_add_right h (n:Int);rwa [Int.zero_add]at this)];rfl
theorem QD(ok:dG T w)(R:Rep T ρ L σ s.heap)(hu:A.units+100<cLine){o i r:PV}{ou iu:Value}(po:cv T ρ L o ou)(pi:cv T ρ L i iu)(e:σ.wA o i=some r){value slice:Expr}
  {Q:Value->Shared->Prop} (h:∀u t,cv T ρ L r u->Q u {s with toks:=t}): ~~~(subscriptTail value slice ou iu) Q E s:=by
 obtain⟨ops,hs⟩:=WU slice ou iu;cases i with
 |aI _=>cases e
 |ax _=>cases e
 |d k=>
 refine aL e λc q e=>?_;cases c with
 |tup l=>
  cases k with
  |int j=>
   refine dN e λsm e=>?_;obtain⟨a,vs,rfl,g,rr⟩:=nR R po q;obtain⟨s1,s2⟩:=xI sm;have pi:=pi;obtain⟨t,rfl⟩:=pi;have fin:∀(k:Nat) (x:D),l[k]?=some x->seqIndex? j vs.size=some k->r= .d x->~~~(subscriptTail value slice (.ref a) (.int j t)) Q E s:=λk x h1 h2 h3=>by obtain⟨v,h4,h5⟩:=rr.at h1;exact tail_any (T:="tuple") ⟨_,g,rfl⟩ slot_tuple_getitem.lookup (getItem_tuple (rS g) s1 s2 h2 h4 (by have:=h v s.toks (by rw[h3];exact h5);exact this)) hs
   by_cases nn:0<=j
   ·rw[ed nn]at e;refine aL e λx h1 h2=>?_;cases h2;have sR:=(gf.mp h1).1;exact fin _ x h1 (by rw[rr.size];exact seqIndex_of nn ((Int.toNat_lt nn).mp sR)) rfl
   ·rw[dU nn]at e;refine dN e λmm e=>?_;have mm:=of_decide_eq_true mm;refine aL e λx h1 h2=>?_;cases h2;exact fin _ x h1 (by rw[rr.size];exact QC (Int.not_le.mp nn) mm) rfl
  |_=>cases e
 |lst l=>
  cases k with
  |int j=>
   refine dN e λsm e=>?_;refine aL e λx h1 h2=>?_;cases h2;obtain⟨a,vs,k,rfl,g,rr⟩:=ei R po q;rw[bx,dK]at sm;obtain⟨s1,s2⟩:=xI sm.1;have pi:VR T.P T.cl ρ (.int j) iu:=pi;obtain⟨t,rfl⟩:=pi;obtain⟨v,h4,h5⟩:=rr.at h1;exact tail_any (T:="list") ⟨_,g,rfl⟩ slot_list_getitem.lookup (wpAny_getItem_list (gF g) sm.2 s2 h4 (by have:=h v s.toks h5;exact this)) hs
  |_=>cases e
 |gT l=>
  refine dN e λdk e=>?_;refine aL e λx h1 h2=>?_;cases h2;obtain⟨a,es,n,rfl,g,rr,hn,hk⟩:=gP R po q;refine tail_any (T:="dict") ⟨_,g,rfl⟩ PySem.slot_dict_getitem.lookup (Ask.item (cl:=T.cl) (ρ:=ρ) (l:=l) (k:=k) ⟨R.nS,by omega,g,ok.P▸rr,hk,dk,ok.P▸pi,hn⟩ (by omega) h1 λv t hv=>?_) hs;exact h v t (by rw[<-ok.P]at hv;exact hv)
 |_=>cases e
end
section
variable{T:bk}{ρ:bU}{L:Lo}{σ aN:PS}{h h':Heap}
theorem mA{v:PV}{l:List D}(e:σ.listOf v=some l):σ.pA v=some (.lst l):=by
 cases v with
 |d x=>cases x<;>cases e;rfl
 |aI n=>obtain⟨x,q,e⟩:=gK e;cases Ma e;show ai toD _=_;rw[q];rfl
 |ax n=>obtain⟨x,q,e⟩:=gK e;cases Mb e;show ai H0 _=_;rw[q];rfl
theorem mB{v:PV}{l:List (D×D)}(e:σ.dictOf v=some l):σ.pA v=some (.gT l):=by
 cases v with
 |d x=>cases x<;>cases e;rfl
 |aI n=>obtain⟨x,q,e⟩:=gK e;cases Mc e;show ai toD _=_;rw[q];rfl
 |ax n=>obtain⟨x,q,e⟩:=gK e;cases Md e;show ai H0 _=_;rw[q];rfl
theorem kQ(R:Rep T ρ L σ h){v:PV}{a:Addr}{l':List D}{vs:Array Value}{k:Nat}(p:cv T ρ L v (.ref a))(e:σ.lx l' v=some aN)(g:h'.get? a=some (gW vs k))(r:dB T.P T.cl ρ l' vs.toList)
  (s:Heap.ExtBut a h h'):Rep T ρ L aN h':=by
 cases v with
 |d x=>cases e
 |aI n=>
  obtain⟨p1,p2⟩:=p;cases p2;refine aL e λl q e=>?_;refine aL q λx q e2=>?_;cases Ma e2;cases e;obtain⟨ow,_⟩:=R.aI n _ q;exact R.GJ q ow s ⟨_,g⟩ ⟨ow,vs,k,g,r⟩
 |ax n=>
  obtain⟨p1,p2⟩:=p;cases p2;refine aL e λl q e=>?_;refine aL q λx q e2=>?_;cases Mb e2;cases e;obtain⟨ow,_⟩:=R.ax n _ q;exact R.zh q (.inl rfl) ow s ⟨_,g⟩ ⟨ow,vs,k,g,r⟩
theorem pM(R:Rep T ρ L σ h){v:PV}{a:Addr}{l':List (D×D)}{es:Array DictEntry}{k:Nat}(p:cv T ρ L v (.ref a))(e:σ.uN l' v=some aN)(ok:kj l')(g:h'.get? a=some (eW es k))(r:gb T.P T.cl ρ l' es.toList)
  (s:Heap.ExtBut a h h'):Rep T ρ L aN h':=by
 cases v with
 |d x=>cases e
 |aI n=>
  obtain⟨p1,p2⟩:=p;cases p2;refine aL e λl q e=>?_;refine aL q λx q e2=>?_;cases Mc e2;cases e;obtain⟨ow,z,_⟩:=R.aI n _ q;exact R.GJ q ow s ⟨_,g⟩ ⟨ow,⟨z.1,ok⟩,es,k,g,r⟩
 |ax n=>
  obtain⟨p1,p2⟩:=p;cases p2;refine aL e λl q e=>?_;refine aL q λx q e2=>?_;cases Md e2;cases e;obtain⟨ow,z,_⟩:=R.ax n _ q;exact R.zh q (.inl rfl) ow s ⟨_,g⟩ ⟨ow,⟨z.1,ok⟩,es,k,g,r⟩
theorem jC(R:Rep T ρ L σ h){l:List D}{vs:Array Value}{k:Nat}{a:Addr}{v:PV}(f:ρ a= .free)(kp:∀b o,b≠a->ρ b≠.free->h.get? b=some o->h'.get? b=some o)(g:h'.get? a=some (gW vs k))
  (r:dB T.P T.cl ρ l vs.toList) (e:σ.sZ l=some (v,aN)):∃aJ L',gc ρ aJ/\L.le L'/\Rep T aJ L' aN h'/\cv T aJ L' v (.ref a):=by
 cases (fj e).2;obtain⟨L',l1,l2,l3,l4,l5⟩:=R.GI (t:= .list l) f kp g λL' hL=>⟨by rw[hL,aO],vs,k,by rw[hL];exact g,dB.mono (dQ f).bB r⟩;exact⟨_,L',l5,l1,l4,by show σ.tm.length<L'.nt/\_;rw[l3];exact⟨yD _,by rw[l2]⟩⟩
theorem xJ(R:Rep T ρ L σ h){l:List (D×D)}{es:Array DictEntry}{k:Nat}{a:Addr}{v:PV}(f:ρ a= .free)(kp:∀b o,b≠a->ρ b≠.free->h.get? b=some o->h'.get? b=some o)(g:h'.get? a=some (eW es k))
  (r:gb T.P T.cl ρ l es.toList) (ok:kj l) (ns:a≠sysModules) (e:σ.newD l=some (v,aN)):∃aJ L',gc ρ aJ/\L.le L'/\Rep T aJ L' aN h'/\cv T aJ L' v (.ref a):=by
 cases e;obtain⟨L',l1,l2,l3,l4,l5⟩:=R.GI (t:= .dict l) f kp g λL' hL=>⟨by rw[hL,aO],⟨by rw[hL];exact ns,ok⟩,es,k,by rw[hL];exact g,gb.mono (dQ f).bB r⟩;exact⟨_,L',l5,l1,l4,by show σ.tm.length<L'.nt/\_;rw[l3];exact⟨yD _,by rw[l2]⟩⟩
theorem nT(R:Rep T ρ L σ h){l:List D}{vs:Array Value}{a:Addr}(f:ρ a= .free)(kp:∀b o,b≠a->ρ b≠.free->h.get? b=some o->h'.get? b=some o)(g:h'.get? a=some (lW vs))
  (r:dB T.P T.cl ρ l vs.toList):∃aJ,gc ρ aJ/\Rep T aJ L σ h'/\cv T aJ L (.d (.tup l)) (.ref a):=by
 refine⟨up ρ a (.bB (lW vs)),dQ f,R.takes (.inl f) kp g,?_⟩;show VR _ _ _ (.tup l) (.ref a);exact⟨a,vs,rfl,aO,dB.mono (dQ f).bB r⟩
theorem iH(R:Rep T ρ L σ h){v:PV}{u:Value}{x:D}(p:cv T ρ L v u)(e:σ.freeze v=some (x,aN)):∃aJ,gc ρ aJ/\Rep T aJ L aN h/\VR T.P T.cl aJ x u:=by
 cases v with
 |d y=>cases e;exact⟨ρ,.refl,R,p⟩
 |ax n=>cases e
 |aI n=>
  obtain⟨p1,rfl⟩:=p;refine aL e λy q e=>?_;cases y with
  |dead=>cases e
  |list l=>
   cases e;obtain⟨ow,vs,k,g,r⟩:=R.aI n _ q;obtain⟨R',le⟩:=R.t9 q ow g;exact⟨_,le,R',by exact⟨_,vs,k,rfl,aO,dB.mono le.bB r⟩⟩
  |dict l=>
   cases e;obtain⟨ow,z,es,k,g,r⟩:=R.aI n _ q;obtain⟨R',le⟩:=R.t9 q ow g;exact⟨_,le,R',by exact⟨_,es,k,rfl,aO,gb.mono le.bB r,z⟩⟩
@[reducible] def gG (T:bk) (ρ:bU) (L:Lo):List PV->List Value->Prop
 |[],[]=>True
 |x::r,v::t=>cv T ρ L x v/\gG T ρ L r t
 |_,_=>False
theorem gG.mono{aJ:bU}{L':Lo}(k:bg ρ aJ)(l:L.le L'):∀{xs:List PV} {vs:List Value},gG T ρ L xs vs->gG T aJ L' xs vs
 |[],[],_=>trivial
 |x::r,v::t,h=>⟨cv.mono k l h.1,gG.mono k l h.2⟩
 |[],_::_,h=>h.elim
 |_::_,[],h=>h.elim
theorem gG.length:∀{xs:List PV} {vs:List Value},gG T ρ L xs vs->xs.length=vs.length
 |[],[],_=>rfl
 |x::r,v::t,h=>by simp[gG.length h.2]
 |[],_::_,h=>h.elim
 |_::_,[],h=>h.elim
theorem kR{xs:List PV}:∀{vs:List Value} {ys:List D} {σ aN:PS} {ρ:bU},Rep T ρ L σ h->gG T ρ L xs vs->σ.lj xs=some (ys,aN)->∃aJ,gc ρ aJ/\Rep T aJ L aN h/\dB T.P T.cl aJ ys vs:=by
 induction xs with
 |nil=>
  intro vs ys σ aN ρ R p e;rcases vs with _|⟨v,t⟩
  ·cases e;exact⟨ρ,.refl,R,trivial⟩
  ·exact p.elim
 |cons x r ih=>
  intro vs ys σ aN ρ R p e;rcases vs with _|⟨v,t⟩
  ·exact p.elim
  refine aF e λy aj q e=>?_;refine aF e λzs aM q2 e=>?_;cases e;obtain⟨ao,a1,a2,a3⟩:=iH R p.1 q;obtain⟨aZ,b1,b2,b3⟩:=ih a2 (gG.mono a1.bB .refl p.2) q2;exact⟨aZ,a1.trans b1,b2,by exact⟨VR.mono b1.bB a3,b3⟩⟩
end
theorem kU{T:bk}{ρ:bU}{L:Lo}:cv T ρ L (.d .none) .none:=by show VR _ _ _ _ _;rfl
theorem rT{T:bk}{ρ:bU}{L:Lo}{b:Bool}:cv T ρ L (.d (.bool b)) (.bool b):=by show VR _ _ _ _ _;rfl
theorem j5{T:bk}{ρ:bU}{L:Lo}{i:Int}{t:Tok}:cv T ρ L (.d (.int i)) (.int i t):=by show VR _ _ _ _ _;exact⟨t,rfl⟩
theorem zj{h:Heap}{a:Addr}(hs:∃o,h.get? sysModules=some o)(f:h.get? a=none):a≠sysModules:=by rintro rfl;obtain⟨o,e⟩:=hs;rw[e]at f;cases f
section
variable{E:Value->Shared->Prop}{T:bk}{ρ:bU}{L:Lo}{σ aN:PS}
theorem dH:(1000000:Nat)+2<=sizeLine:=by decide
theorem GS(R:Rep T ρ L σ s.heap){v:PV}{a:Addr}{l:List D}{x:D}{u:Value}(p:cv T ρ L v (.ref a))(e:σ.listOf v=some l)(hf:fits l=true)(e':σ.lx (l++[x]) v=some aN)(hx:VR T.P T.cl ρ x u)
  {Q:Value->Shared->Prop} (h:∀s',jZ T ρ L s (.d .none) aN .none s'->Q .none s'): ~~~(call (.builtin "list.append") [.ref a,u]) Q E s:=by
 obtain⟨b,vs,k,hb,g,r⟩:=ei R p (mA e);cases hb;refine wpAny_list_append_plain ⟨k,g⟩ (λh' pl sb=>?_) (by rw[r.size];have:=dh hf;have:=dH;lia);obtain⟨k',g'⟩:=pl;refine h _ (.eV (kQ R p e' g' ?_ sb.extBut) ⟨_,_,rfl⟩ kU);rw[Array.toList_push];refine r.append ?_;exact⟨hx,trivial⟩
theorem WV(R:Rep T ρ L σ s.heap){v:PV}{a:Addr}{l:List D}{x:D}(p:cv T ρ L v (.ref a))(e:σ.listOf v=some l)(hf:fits l=true)(hx:l.getLast?=some x)(e':σ.lx l.dropLast v=some aN)
  {Q:Value->Shared->Prop} (h:∀u s',jZ T ρ L s (.d x) aN u s'->Q u s'): ~~~(call (.builtin "list.pop") [.ref a]) Q E s:=by
 obtain⟨b,vs,k,hb,g,r⟩:=ei R p (mA e);cases hb;have hs:=r.size;rw[List.getLast?_eq_getElem?]at hx;obtain⟨u,hu,hr⟩:=r.at hx;have hz:vs.size<=sizeLine:=by rw[hs];have:=dh hf;have:=dH;lia
 refine call_meets PySem.F.slot_list_pop ⟨_,g,rfl⟩ PySem.F.entry_list_pop (PySem.F.args_list_pop_1 _) (MeetsSeq.list_pop_last a vs k u (by rw[hs];exact hu) hz) ⟨g,?_⟩;have g':=get?_update_seq g (λxs=>xs.eraseIdxIfInBounds (vs.size-1));refine h _ _ (.eV (kQ R p e' g' ?_ (Heap.SameBut.update ..).extBut) ⟨_,_,rfl⟩ hr);have:(vs.eraseIdxIfInBounds (vs.size-1)).toList=vs.toList.take (l.length-1):=by
  obtain⟨vl⟩:=vs;have hs:vl.length=l.length:=hs;have:0<l.length:=by have:=(gf.mp hx).1;omega
  rw[<-hs,<-List.dropLast_eq_take];simp
 show dB _ _ _ l.dropLast (vs.eraseIdxIfInBounds (vs.size-1)).toList;rw[this,List.dropLast_eq_take];exact dB.take _ r
end
theorem ph{α:Type}(n:Nat):∀(l:List α) (k:Nat),((l.zipIdx k).filterMap λp:α×Nat=>if decide (n<=p.2)=true then none else some p.1)=l.take (n-k)
 |[],k=>by simp
 |a::r,k=>by
  rw[List.zipIdx_cons,List.filterMap_cons];by_cases h:n<=k
  ·have e:n-k=0:=Nat.sub_eq_zero_of_le h;simp only[h,decide_true,if_true];rw[ph n r (k+1),e];have:n-(k+1)=0:=Nat.sub_eq_zero_of_le (Nat.le_succ_of_le h);rw[this];simp
  ·have h':decide (n<=k)=false:=dU h;simp only[h',we,if_false];rw[ph n r (k+1)];have:n-k=(n-(k+1))+1:=oc1 (Nat.lt_of_not_le h);rw[this];rfl
theorem rU{α β:Type}{f g:α->Option β}:∀(l:List α),(∀x∈l,f x=g x)->l.filterMap f=l.filterMap g
 |[],_=>rfl
 |a::r,h=>by rw[List.filterMap_cons,List.filterMap_cons,h a (.head _),rU r λx hx=>h x (.tail _ hx)]
def sel(start stop step:Int)(i:Nat):Bool:=
 if step>0 then start<=i&&i<stop&&(i-start)%step==0
 else stop<i&&i<=start&&(start-i)%(-step)==0
theorem min_le{i:Int}{n p:Nat}(hp:p<n):min i (n:Int)<=p<->i<=p:=
 ⟨λh=>(Int.le_total i n).elim (λq=>Int.min_eq_left q▸h) λq=>absurd (Int.ofNat_le.mp (Int.min_eq_right q▸h)) (Nat.not_le_of_lt hp),λh=>Int.le_trans (Int.min_le_left ..) h⟩
theorem GU{i:Int}{n p:Nat}(hp:p<n):sel (min i (n:Int)) n 1 p=decide (i.toNat<=p):=by have e:sel (min i (n:Int)) n 1 p=(decide (min i (n:Int)<=p)&&decide ((p:Int)<n)&&(((p:Int)-min i (n:Int))%1==0)):=rfl;rw[e,Int.emod_one,ed (pX.mpr hp),wk,jd,bx,dK,dK,min_le hp,Int.toNat_le];exact⟨λh=>h.1,λh=>⟨h,rfl⟩⟩
theorem ub{items:Array Value}{i:Int}:(items.toList.zipIdx.filterMap λ(p:Value×Nat)=>if sel (min i (items.size:Int)) (items.size:Int) 1 p.2=true then none else some p.1)=items.toList.take i.toNat:=by
 refine(rU _ λp hp=>?_).trans (ph i.toNat items.toList 0);have Ym:p.2<items.size:=by have:=List.snd_lt_of_mem_zipIdx hp;simpa using this
 rw[GU Ym]
theorem xK{i:Int}{n:Nat}(hi:0<=i):sliceBounds (some i) none none n=(min i (n:Int),(n:Int),1):=by dsimp only[sliceBounds];have:¬i<0:=Int.not_lt.mpr hi;simp[this];exact Int.max_eq_right (Int.le_min.mpr ⟨hi,sT n⟩)
section
variable{E:Value->Shared->Prop}
set_option maxRecDepth 100000 in
theorem vE{l sl:Addr}{items:Array Value}{i:Int}{t:Tok}{n:Nat}{Q:Unit->Shared->Prop}(hl:s.heap.get? l=some (gW items n))(hi:0<=i)
  (hs:s.heap.IsSliceOf sl (.int i t) .none .none)
  (h:∀h' k,h'.get? l=some (gW (items.toList.take i.toNat).toArray k)->Heap.SameBut l s.heap h'->Q () {s with heap:=h'})
  (hsz:items.size<=sizeLine): ~~~(delItem (.ref l) (.ref sl)) Q E s:=by
 obtain⟨os,YI,Sy,hds⟩:=id hs;have hTs:s.TypeIs (.ref sl) "slice":=⟨os,YI,Sy⟩;have hT:s.TypeIs (.ref l) "list":=⟨_,hl,rfl⟩;unfold delItem;try with_reducible refine wpAny_holding ?_
 first|refine wpAny_bind (wpAny_pure ?_)|skip
 refine wpAny_bind (wpAny_sequenceKey hT ∅ ?_);refine wpAny_bind (wpAny_callSpecial?_slot (name:=Str.ofString "__delitem__") hT PySem.F.slot_list_delitem
  (wpAny_call_entry PySem.F.slot_list_delitem hT PySem.F.entry_list_delitem ?_ (PySem.F.args_list_delitem_2 _ _)))
 show wpAny _ _ (Builtin.List.listSubscript? (.ref sl)>>=_) _ _ s;refine wpAny_bind ?_;refine wpAny_bind (wpAny_specialOf hTs slice_no_index ?_);refine wpAny_ite_true rfl (wpAny_pure ?_);show wpAny _ _ (typeOf (.ref sl)>>=_) _ _ s;refine wpAny_bind (wpAny_typeOf hTs ?_);refine wpAny_ite_false rfl ?_;rw[listSliceParts_eq];refine wpAny_bind (wpAny_bind (wpAny_field YI hds (x:= .none) rfl (wpAny_bind (wpAny_listPart .none ?_))));refine wpAny_ite_false rfl ?_;refine wpAny_bind (wpAny_field YI hds (x:= .int i t) rfl (wpAny_bind (wpAny_listPart (.int i t) ?_)));refine wpAny_bind (wpAny_field YI hds (x:= .none) rfl (wpAny_bind (wpAny_listPart .none (wpAny_pure ?_))));refine wpAny_bind (listItems_at hl rfl ?_);refine wpAny_bind (wpAny_of_eq (sliceIndices_raw (some i) none none items.size ∅) ?_);rw[xK hi];show wpAny _ _ (rule "list.__delitem__.slice">>=_) _ _ s;refine wpAny_bind (wpAny_rule ?_);show wpAny _ _ (Builtin.List.listUpdate (.ref l) (λxs=>(xs.toList.zipIdx.filterMap λ(p:Value×Nat)=>if sel (min i (items.size:Int)) (items.size:Int) 1 p.2=true then none else some p.1).toArray)>>=_) _ _ s;refine wpAny_bind (listUpdate_at hl rfl ?_ hsz ?_)
 ·refine wpAny_bind (wpAny_letGo (wpAny_pure ⟨.none,rfl,wpAny_pure ?_⟩));have g:=get?_update_seq hl (λxs=>(xs.toList.zipIdx.filterMap λ(p:Value×Nat)=>if sel (min i (items.size:Int)) (items.size:Int) 1 p.2=true then none else some p.1).toArray);rw[ub]at g;exact h _ _ g (Heap.SameBut.update ..)
 ·rw[ub];rw[List.size_toArray,List.length_take,Array.length_toList];exact Nat.le_succ_of_le (aW (Nat.min_le_right _ _) hsz)
end
theorem gH{prog:Program}{w:World}{A:Around}{I:Addr}{fp wr:List Addr}{n:Nat}{P P':Nat->Value->Prop}{St:Nat->Heap->Prop}(W:Walks prog w A I fp wr n P St)(h:∀i v,i<n->P i v->P' i v):Walks prog w A I fp wr n P' St:=
 ⟨W.sub,W.frame,λi s Q E hi st hQ=>W.item i s Q E hi st λv h' tk p st' k=>hQ v h' tk (h i v hi p) st' k,W.done,W.self⟩
section
variable{cl:Nat->Addr}{ρ:bU}
def YJ:D->Int
 | .int i=>i
 |_=>0
def YK:D->List Nat
 | .str i=>i
 |_=>[]
theorem xM{k:D}(h:cy k=1):k= .int (YJ k):=by cases k<;>first|change h|rfl
theorem xN{k:D}(h:cy k=2):k= .str (YK k):=by cases k<;>first|change h|rfl
section
variable{K:Type}{f:D->K}
def YL(f:D->K)(l:List (D×D))(es:List DictEntry):List (K×Value):=List.zipWith (λp e=>(f p.1,e.val)) l es
theorem AQ:∀{l:List (D×D)} {es:List DictEntry},gb w.params cl ρ l es->(YL f l es).map (·.1)=l.map λp=>f p.1
 |[],[],_=>rfl
 |(k,x)::r,e::t,q=>congrArg (f k::·) (AQ q.2)
 |[],_::_,q=>q.elim
 |(_,_)::_,[],q=>q.elim
variable [DecidableEq K] {knd:KeyKind prog w K}{c:Nat}
theorem uc(a1:∀k u,cy k=c->VR w.params cl ρ k u->knd.is (f k) u=true):∀{l:List (D×D)} {es:List DictEntry},gb w.params cl ρ l es->(∀p∈l,cy p.1=c)->Pairs knd es (YL f l es)
 |[],[],_,_=> .nil
 |(k,x)::r,e::t,q,hk=> .cons (a1 _ _ (hk _ (.head _)) q.1.2.1) rfl (uc a1 q.2 λp hp=>hk p (.tail _ hp))
 |[],_::_,q,_=>q.elim
 |(_,_)::_,[],q,_=>q.elim
end
inductive zk (prog:Program) (w:World) (cl:Nat->Addr) (ρ:bU) (h:Heap) (d:Addr) (n:Nat) (l:List (D×D)):Prop
 |mk (K:Type) (dec:DecidableEq K) (knd:KeyKind prog w K) (kv:List (K×Value)) (D:h.DictAt knd d kv n) (len:kv.length=l.length)
   (key:∀(i:Nat) (x:K×Value) (v:Value),kv[i]?=some x->knd.is x.1 v=true->∃k,(l.map (·.1))[i]?=some k/\VR w.params cl ρ k v):zk prog w cl ρ h d n l
theorem AR{K:Type} [dec:DecidableEq K] (knd:KeyKind prog w K)(f:D->K){c:Nat}(a1:∀k u,cy k=c->VR w.params cl ρ k u->knd.is (f k) u=true)(a2:∀k,cy k=c->ja w.params k=knd.hash (f k))
  (a3:∀k k',cy k=c->cy k'=c->f k=f k'->k=k') (a4:∀k u v,cy k=c->VR w.params cl ρ k u->knd.is (f k) v=true->VR w.params cl ρ k v)
  {h:Heap} {d:Addr} {es:Array DictEntry} {n:Nat} {l:List (D×D)} (g:h.get? d=some (eW es n)) (q:gb w.params cl ρ l es.toList) (ok:kj l) (hk:∀p∈l,cy p.1=c):zk prog w cl ρ h d n l:=by
 have mp:=AQ (f:=f) q;refine⟨K,dec,knd,YL f l es.toList,⟨_,es,g,⟨rfl,rfl,rfl⟩,rfl,λe he=>?_,uc a1 q hk,?_⟩,?_,λi x v h1 h2=>?_⟩
 ·obtain⟨i,hi⟩:=List.mem_iff_getElem?.mp (Array.mem_def.mp he);have hl:i<l.length:=by rw[q.length];exact(gf.mp hi).1
  obtain⟨e',h1,h2,h3,_⟩:=q.get (i:=i) (k:=(l[i]).1) (x:=(l[i]).2) (mN hl);rw[hi]at h1;cases h1;have:=hk _ (List.getElem_mem hl);exact⟨f _,a1 _ _ this h3,h2.trans (a2 _ this)⟩
 ·rw[mp,List.Nodup,List.pairwise_map];exact(List.pairwise_map.mp ok.nodup).imp_of_mem λ{x y} hx hy n e=>n (a3 _ _ (hk x hx) (hk y hy) e)
 ·rw[<-eT (·.1),mp,eT]
 ·have:((YL f l es.toList).map (·.1))[i]?=some x.1:=by rw[pR,h1];rfl
  rw[mp,pR]at this;obtain⟨p,hp,e⟩:=ET.mp this;obtain⟨e',_,_,hv,_⟩:=q.get (k:=p.1) (x:=p.2) hp;exact⟨p.1,by rw[pR,hp];rfl,a4 _ _ _ (hk p (qO hp)) hv (e▸h2)⟩
theorem D6{l:List (D×D)}(ok:kj l)(f:jn l=true):(∀p∈l,cy p.1=1)\/(∀p∈l,cy p.1=2):=by
 cases l with
 |nil=>exact .inl λp hp=>nomatch hp
 |cons p r=>
  have hp:=ok.key p (.head _);have f:=g5 f;have:cy p.1=1\/cy p.1=2:=by cases q:p.1<;>rw[q]at f hp<;>first|(exact .inl rfl)|(exact .inr rfl)|(exact noB hp)|(exact absurd f (by show¬3<=2;omega))
  rcases this with h|h
  ·exact .inl λq hq=>(ok.kind q hq p (.head _)).trans h
  ·exact .inr λq hq=>(ok.kind q hq p (.head _)).trans h
theorem AS{h:Heap}{d:Addr}{es:Array DictEntry}{n:Nat}{l:List (D×D)}(g:h.get? d=some (eW es n))(q:gb w.params cl ρ l es.toList)(ok:kj l)(f:jn l=true):zk prog w cl ρ h d n l:=by
 rcases D6 ok f with hk|hk
 ·refine AR (intKind prog w) YJ (λk u e q=>?_) (λk e=>?_) (λk k' e e' h=>by rw[xM e,xM e',h]) (λk u v e q g=>?_) g q ok hk
  ·rw[xM e]at q;obtain⟨t,rfl⟩:=q;show Value.isInt (YJ k) (.int (YJ k) t)=true;simp[Value.isInt]
  ·rw[xM e];exact lF _ _
  ·obtain⟨t,rfl⟩:=Value.isInt_shape g;rw[xM e];exact⟨t,rfl⟩
 ·refine AR (strKind prog w) (λk=>nM (YK k)) (λk u e q=>?_) (λk e=>?_) (λk k' e e' h=>?_) (λk u v e q g=>?_) g q ok hk
  ·rw[xN e]at q;obtain⟨t,rfl,_⟩:=q;show Value.isStrOf (nM (YK k)) (.str (nM (YK k)) t)=true;simp[Value.isStrOf]
  ·rw[xN e];rfl
  ·rw[xN e,xN e'];injection h with h;injection h with h;rw[h]
  ·obtain⟨t,rfl⟩:=Value.isStrOf_shape g;rw[xN e]at q⊢;obtain⟨_,_,o⟩:=q;exact⟨t,rfl,o⟩
def GV:Value->Bool
 | .type n=>!(["enumerate","zip","dict_itemiterator","dict_reverseitemiterator","odict_iterator","itertools.zip_longest","itertools.pairwise"].contains n)
 |_=>false
structure Iter (prog:Program) (w:World) (A:Around) (P:Params) (cl:Nat->Addr) (ρ:bU) (items:List D) (I:Addr) (fp:List Addr) (h:Heap):Prop where
 ex:∃St:Nat->Heap->Prop,Walks prog w A I fp [I] items.length (λi v=>∃x,items[i]?=some x/\VR P cl ρ x v) St/\St 0 h/\∀i h,St i h->∃o,h.get? I=some o/\GV o.cls=true
variable{E:Value->Shared->Prop}
theorem ud(hh:A.handled=none){d:Addr}{es:Array DictEntry}{n:Nat}{l:List (D×D)}(g:s.heap.get? d=some (eW es n))(q:gb w.params cl ρ l es.toList)(ok:kj l)(f:jn l=true)(ns:d≠sysModules)
  {Q:Value->Shared->Prop} (h:∀o,o.isFreed=false->(∀A',A'.handled=none->Iter prog w A' w.params cl ρ (l.map (·.1)) s.heap.objs.size [s.heap.objs.size,d] (s.heap.push o))->Q (.ref s.heap.objs.size) {s with heap:=s.heap.push o}):
  ~~~(pyIter (.ref d)) Q E s:=by
 have WW:d≠s.heap.objs.size:=sX (Heap.lt_size g);obtain⟨K,dec,knd,kv,D,len,key⟩:=AS (prog:=prog) g q ok f;refine wpAny_pyIter_dict (qJ ns) D (h _ rfl λA' QE=>?_);refine⟨⟨λi h=>h.IsKeyIter s.heap.objs.size d i kv.length n/\h.DictAt knd d kv n,?_,⟨⟨_,jK _ rfl,rfl,rfl⟩,D.push _⟩,λi h x=>by obtain⟨o,ho,hc,_⟩:=x.1;exact⟨o,ho,by rw[hc];decide⟩⟩⟩;rw[eT,<-len];exact gH (Walks.dictKeys QE s.heap.objs.size d WW kv n) λi v _ z=>by obtain⟨k,x,h1,h2⟩:=z;exact key i (k,x) v h1 h2
theorem D7(hh:A.handled=none){a:Addr}{vs:Array Value}{n:Nat}{l:List D}(g:s.heap.get? a=some (gW vs n))(q:dB w.params cl ρ l vs.toList)
  {Q:Value->Shared->Prop} (h:∀o,o.isFreed=false->(∀A',A'.handled=none->Iter prog w A' w.params cl ρ l s.heap.objs.size [s.heap.objs.size,a] (s.heap.push o))->Q (.ref s.heap.objs.size) {s with heap:=s.heap.push o}):
  ~~~(pyIter (.ref a)) Q E s:=by
 have WW:a≠s.heap.objs.size:=sX (Heap.lt_size g);refine wpAny_pyIter_list (gF g) ?_;refine h _ ?_ ?_
 ·rfl
 intro A' QE;refine⟨⟨λi h=>h.IsListIter s.heap.objs.size a i/\h.IsList a vs,?_,⟨⟨_,jK _ rfl,rfl,rfl⟩,(gF g).push _⟩,λi h x=>by obtain⟨o,ho,hc,_⟩:=x.1;exact⟨o,ho,by rw[hc];decide⟩⟩⟩;rw[<-q.size];refine gH (Walks.list QE s.heap.objs.size a WW vs) ?_;intro i v _ h1;have hi:i<l.length:=by rw[<-q.size];exact(Array.getElem?_eq_some_iff.mp h1).1
 obtain⟨v',h2,h3⟩:=q.at (mN hi);rw[h1]at h2;cases h2;exact⟨_,mN hi,h3⟩
theorem iter_tuple(hh:A.handled=none){a:Addr}{vs:Array Value}{l:List D}(g:s.heap.get? a=some (lW vs))(q:dB w.params cl ρ l vs.toList)
  {Q:Value->Shared->Prop} (h:∀o,o.isFreed=false->(∀A',A'.handled=none->Iter prog w A' w.params cl ρ l s.heap.objs.size [s.heap.objs.size,a] (s.heap.push o))->Q (.ref s.heap.objs.size) {s with heap:=s.heap.push o}):
  ~~~(pyIter (.ref a)) Q E s:=by
 have WW:a≠s.heap.objs.size:=sX (Heap.lt_size g);refine wpAny_pyIter_tuple (mz g) ?_;refine h _ ?_ ?_
 ·rfl
 intro A' QE;refine⟨⟨λi h=>h.IsTupleIter s.heap.objs.size a i/\h.IsTuple a vs,?_,⟨⟨_,jK _ rfl,rfl,rfl⟩,mz (h_ _ g)⟩,λi h x=>by obtain⟨o,ho,hc,_⟩:=x.1;exact⟨o,ho,by rw[hc];decide⟩⟩⟩;rw[<-q.size];refine gH (Walks.tuple QE s.heap.objs.size a WW vs) ?_;intro i v _ h1;have hi:i<l.length:=by rw[<-q.size];exact(Array.getElem?_eq_some_iff.mp h1).1
 obtain⟨v',h2,h3⟩:=q.at (mN hi);rw[h1]at h2;cases h2;exact⟨_,mN hi,h3⟩
theorem zl(hh:A.handled=none){a:Addr}{n:Int}{t u v:Tok}(g:s.heap.get? a=some (GH n t u v))(h0:0<=n)(h1:n<1000000)
  {Q:Value->Shared->Prop} (h:∀o,o.isFreed=false->(∀A',A'.handled=none->Iter prog w A' w.params cl ρ ((List.range n.toNat).map λ(i:Nat)=>D.int i) s.heap.objs.size [s.heap.objs.size] (s.heap.push o))->Q (.ref s.heap.objs.size) {s with heap:=s.heap.push o}):
  ~~~(pyIter (.ref a)) Q E s:=by
 refine wpAny_pyIter_range (a:=0) (b:=n) (c:=1) g (small_one ∅ ∅ (by omega) (by omega)) ?_;refine h _ ?_ ?_
 ·rfl
 intro A' QE;have hs:Builtin.Range.rangeSize 0 n 1=(n.toNat:Int):=by
  unfold Builtin.Range.rangeSize;simp;rcases Int.lt_or_eq_of_le h0 with z|z
  ·rw[if_pos z,Int.max_eq_left h0]
  ·rw[<-z];rfl
 refine⟨⟨λi h=>IsRangeIter h s.heap.objs.size (0+(i:Int)*1) ((n.toNat:Int)-i) 1,?_,?_,λi h x=>⟨_,x,(by decide:GV (.type "range_iterator")=true)⟩⟩⟩
 ·rw[eT,List.length_range];refine gH (Walks.range (prog:=prog) (w:=w) QE s.heap.objs.size 0 1 n.toNat) ?_;rintro i v hi ⟨t,rfl⟩;refine⟨.int i,by rw[pR,List.getElem?_range hi];rfl,?_⟩;exact⟨t,by rw[show(0:Int)+(i:Int)*1=i by rw[Int.mul_one,Int.zero_add]]⟩
 ·have:=jK s.heap (o:={cls:= .type "range_iterator",data:= .fields #[rawInt 0,rawInt (Builtin.Range.rangeSize 0 n 1),rawInt 1]}) rfl;rw[hs]at this⊢;exact this
end
section
variable{E:Value->Shared->Prop}{T:bk}{ρ:bU}{L:Lo}{σ aN:PS}
theorem AU{α:Type}{l:List α}{n:Nat}(h:fits l=true)(e:n=l.length):(n:Int)<2^63:=Int.lt_of_le_of_lt (Int.ofNat_le.mpr (aW (lM e) (dh h))) (show((1000000:Nat):Int)<2^63 by decide+kernel)
theorem bV{i:Int}{u:Value}(h:cv T ρ L (.d (.int i)) u):∃t,u= .int i t:=by have h:=h;exact h
theorem iJ{P:Params}{cl:Nat->Addr}{i:Int}{u:Value}(h:VR P cl ρ (.int i) u):∃t,u= .int i t:=by exact h
theorem QF{P:Params}{cl:Nat->Addr}{i:Int}{t:Tok}:VR P cl ρ (.int i) (.int i t):=by exact⟨t,rfl⟩
theorem lG(R:Rep T ρ L σ s.heap){v:PV}{u:Value}{b:Bool}(p:cv T ρ L v u)(e:σ.truth v=some b){Q:Bool->Shared->Prop}(h:∀t,Q b {s with toks:=t}):
  ~~~(truthy u) Q E s:=by
 refine aL e λx q e=>?_;cases x<;>first|change e|skip
 ·cases e;have:=pL R p q (λ_ z=>by cases z) (λ_ z=>by cases z);subst this;exact wpAny_pure (by have:=h s.toks;exact this)
 ·cases e;have:=pL R p q (λ_ z=>by cases z) (λ_ z=>by cases z);subst this;exact wpAny_truthy_bool (by have:=h s.toks;exact this)
 ·rename_i i;cases e;obtain⟨t,zq32⟩:=iJ (pL R p q (λ_ z=>by cases z) (λ_ z=>by cases z));rw[zq32];have e:(!(i==0))=(i !=0):=rfl;rw[e]at h;exact PySem.P.truthy_int (h s.toks)
 ·rename_i l;refine dN e λhf e=>?_;cases e;obtain⟨a,vs,k,zq40,g,r⟩:=ei R p q;rw[zq40];refine wpAny_truthy_list (gF g) (AU hf r.size) ?_;have e:(!vs.isEmpty)=!l.isEmpty:=by have:=r.size;unfold Array.isEmpty;rw[this];cases l<;>simp
  rw[e];exact h _
theorem WX(R:Rep T ρ L σ s.heap)(hP:T.P=w.params){v r:PV}{u:Value}(p:cv T ρ L v u)(e:builtin .len v σ=some (r,aN)){Q:Value->Shared->Prop}(h:∀u s',jZ T ρ L s r aN u s'->Q u s'):
  ~~~(call (.builtin "len") [u]) Q E s:=by
 refine aL e λc q e=>?_;cases c<;>first|change e|skip
 ·refine dN e λhf e=>?_;cases e;obtain⟨a,vs,rfl,g,rr⟩:=nR R p q;refine len_tuple (rS g) (AU hf rr.size) ?_;rw[rr.size];exact h _ _ (.eV R ⟨_,_,rfl⟩ j5)
 ·refine dN e λhf e=>?_;cases e;obtain⟨a,vs,k,zq61,g,rr⟩:=ei R p q;rw[zq61];refine call_len_list (gF g) (AU hf rr.size) ?_;rw[rr.size];exact h _ _ (.eV R ⟨_,_,rfl⟩ j5)
 ·refine dN e λhf e=>?_;rw[bx]at hf;cases e;obtain⟨a,es,k,zq69,g,rr,ns,ok⟩:=gP R p q;rw[zq69];obtain⟨K,dec,knd,kv,D,z,_⟩:=AS (prog:=prog) g (hP▸rr) ok hf.2;refine call_len_dict (qJ ns) D.dictOf (AU hf.1 z) ?_;rw[z];exact h _ _ (.eV R ⟨_,_,rfl⟩ j5)
theorem J7(R:Rep T ρ L σ s.heap){v r:PV}{u:Value}(p:cv T ρ L v u)(e:builtin .tuple v σ=some (r,aN)){Q:Value->Shared->Prop}(h:∀u s',jZ T ρ L s r aN u s'->Q u s'):
  ~~~(call (.type "tuple") [u]) Q E s:=by
 refine aL e λc q e=>?_;cases c<;>first|change e|skip
 rename_i l;refine dN e λhf e=>?_;cases e;obtain⟨a,vs,k,zq82,g,rr⟩:=ei R p q;rw[zq82];refine call_tuple_list (gF g) (λh' kp=>?_) (by rw[rr.size];have:=dh hf;have:=dH;lia);have R':=R.heap λb o _ e=>kp b o e;obtain⟨aJ,x,y,z⟩:=nT (l:=l) (vs:=vs) (h':=h'.push (lW vs)) R' R'.new (λb o _ _ e=>h_ _ e) (jK _ rfl) rr;exact h _ _ (.now x .refl y ⟨_,_,rfl⟩ z)
theorem J8(R:Rep T ρ L σ s.heap){v r:PV}{u:Value}(p:cv T ρ L v u)(e:builtin .range v σ=some (r,aN)){Q:Value->Shared->Prop}(h:∀u s',jZ T ρ L s r aN u s'->Q u s'):
  ~~~(call (.type "range") [u]) Q E s:=by
 cases v<;>first|change e|skip
 rename_i x;cases x<;>first|change e|skip
 rename_i n;cases (fj e).2;obtain⟨t,zq95⟩:=bV p;rw[zq95];refine call_range_1 ?_;obtain⟨R',le⟩:=R.zf (GH n s.toks t (s.toks+1));have pv:cv T (up ρ s.heap.objs.size (.bB (GH n s.toks t (s.toks+1)))) L (.d (.oy n)) (.ref s.heap.objs.size):=by show VR T.P T.cl _ (.oy n) _;exact⟨_,_,_,_,rfl,aO⟩
 exact h _ _ (.now le .refl R' ⟨_,_,rfl⟩ pv)
theorem zm{a b:Int}(ha:0<=a)(hb:0<=b):Builtin.bitAnd a b=((a.toNat&&&b.toNat:Nat):Int):=by obtain⟨m,rfl⟩:=Int.eq_ofNat_of_zero_le ha;obtain⟨n,rfl⟩:=Int.eq_ofNat_of_zero_le hb;rfl
theorem rV(m:Nat):decide (0<=Builtin.bitNot (m:Int))=false:=by unfold Builtin.bitNot;simp;omega
theorem j6(i:Int):Builtin.bitNot (Builtin.bitNot i)=i:=by unfold Builtin.bitNot;omega
theorem D8{a b:Int}(ha:0<=a)(hb:0<=b):Builtin.bitOr a b=((a.toNat|||b.toNat:Nat):Int):=by obtain⟨m,rfl⟩:=Int.eq_ofNat_of_zero_le ha;obtain⟨n,rfl⟩:=Int.eq_ofNat_of_zero_le hb;dsimp only[Builtin.bitOr,Builtin.bitAnd];rw[rV,rV];show Builtin.bitNot (Builtin.bitNot _)=_;rw[j6,j6,j6]
def QG:mU->Operator
 | .add=> .Add| .sub=> .Sub| .mul=> .Mult| .fdiv=> .FloorDiv| .mod=> .Mod| .band=> .BitAnd| .bor=> .BitOr| .pow=> .Pow
theorem zo{a:Int}(h:small a=true):Builtin.Int.intBits a<=64:=by
 unfold Builtin.Int.intBits;split
 ·omega
 ·rename_i z;have z:a≠0:=by simpa using z
  have:a.natAbs.log2<64:=(Nat.log2_lt λe=>z (Int.natAbs_eq_zero.mp e)).mpr (Nat.lt_trans (g5 h) ∅);exact this
theorem D9{o:mU}{a b i:Int}{t u:Tok}(e:arith o a b=some i){Q:Value->Shared->Prop}(h:∀t',Q (.int i t') {s with toks:=t'+1}): ~~~(binaryOp (QG o) (.int a t) (.int b u)) Q E s:=by
 cases o<;>unfold arith at e<;>dsimp only at e
 ·cases e;exact PyProof.Rows.add_int (h _)
 ·cases e;exact PyProof.Rows.sub_int (h _)
 ·obtain⟨q,e⟩:=fj e;cases e;rw[bx]at q;exact PyProof.Rows.mul_int (h _) (IntMulOk.of_left (zo q.1))
 ·obtain⟨q,e⟩:=fj e;cases e;rw[bx,dK,dK]at q;exact PyProof.Rows.floordiv_int (by omega) (h _) (.inl (PyProof.noPylong_small (pX.mp (Int.lt_of_le_of_lt (Int.le_of_eq (Int.natAbs_of_nonneg (Int.le_of_lt q.1))) q.2))))
 ·obtain⟨q,e⟩:=fj e;cases e;rw[dK]at q;exact PyProof.Rows.mod_int (by omega) (h _)
 ·obtain⟨q,e⟩:=fj e;cases e;rw[bx,dK,dK]at q;refine PyProof.Rows.and_int ?_;rw[zm q.1 q.2];exact h _
 ·obtain⟨q,e⟩:=fj e;cases e;rw[bx,dK,dK]at q;refine PyProof.Rows.or_int ?_;rw[D8 q.1 q.2];exact h _
 ·obtain⟨q,e⟩:=fj e;cases e;rw[bx,bx,dK,dK,fg]at q;obtain⟨⟨QB,q2⟩,q3⟩:=q;rw[QB];refine PyProof.Rows.pow_int q2 ?_ ?_
  ·have:Builtin.Int.intBits 2=2:=by decide+kernel
   rw[this];omega
  ·have e:((2^b.toNat:Nat):Int)=(2:Int)^b.toNat:=rfl;rw[<-e];exact h _
theorem J9(R:Rep T ρ L σ s.heap){o:mU}{x y r:PV}{u v:Value}(px:cv T ρ L x u)(py:cv T ρ L y v)(e:binop o x y σ=some (r,aN)){Q:Value->Shared->Prop}(h:∀u s',jZ T ρ L s r aN u s'->Q u s'):
  ~~~(binaryOp (QG o) u v) Q E s:=by
 refine aL e λc q1 e=>?_;refine aL e λd q2 e=>?_;cases c<;>cases d<;>first|change e|skip
 ·refine aL e λi hi e=>?_;cases e;obtain⟨t,zq64⟩:=iJ (pL R px q1 (λ_ z=>by cases z) (λ_ z=>by cases z));rw[zq64];obtain⟨t',zq66⟩:=iJ (pL R py q2 (λ_ z=>by cases z) (λ_ z=>by cases z));rw[zq66];exact D9 hi λt=>h _ _ (.eV R ⟨_,_,rfl⟩ j5)
 ·rename_i a _ b;cases o<;>first|change e|skip
  refine dN e λhf e=>?_;cases e;have V1:=pL R px q1 (λ_ z=>by cases z) (λ_ z=>by cases z);have V2:=pL R py q2 (λ_ z=>by cases z) (λ_ z=>by cases z);obtain⟨t,vs,rfl,g,rr⟩:=nR R px q1;obtain⟨t',D_,rfl,g',Sz⟩:=nR R py q2;have hsz:vs.size+D_.size<=sizeLine:=by rw[rr.size,Sz.size];have:=dh hf;rw[dS]at this;have:=dH;lia
  have fin:∀us:Array Value,us=vs++D_->Q (.ref s.heap.objs.size) {s with heap:=s.heap.push {cls:= .type "tuple",data:= .seq us}}:=λus he=>by subst he;obtain⟨aJ,a',b',c'⟩:=nT (l:=a++b) (vs:=vs++D_) (h':=s.heap.push (lW (vs++D_))) R R.new (λb o _ _ e=>h_ _ e) (jK _ rfl) (by rw[Array.toList_append];exact rr.append Sz);exact h _ _ (.now a' .refl b' ⟨_,_,rfl⟩ c')
  by_cases hv:vs.isEmpty=true
  ·refine concat_meets ⟨_,g,rfl⟩ ⟨_,g',rfl⟩ noFill_tuple_add seq_tuple_add PySem.F.slot_tuple_add PySem.F.entry_tuple_add (PySem.F.args_tuple_add_2 _ _) (tuple_addW0 t t' vs D_ 0 0 none none #[] #[] hv) ⟨g,g',?_⟩;have:a=[]:=by have:=rr.size;rw[Array.isEmpty_iff_size_eq_zero.mp hv]at this;exact Bl.mp this.symm
   subst this;exact h _ _ (.eV R ⟨_,_,rfl⟩ V2)
  ·by_cases hw:D_.isEmpty=true
   ·refine concat_meets ⟨_,g,rfl⟩ ⟨_,g',rfl⟩ noFill_tuple_add seq_tuple_add PySem.F.slot_tuple_add PySem.F.entry_tuple_add (PySem.F.args_tuple_add_2 _ _) (tuple_addW1 t t' vs D_ 0 0 none none #[] #[] hv hw) ⟨g,g',?_⟩;have:b=[]:=by have:=Sz.size;rw[Array.isEmpty_iff_size_eq_zero.mp hw]at this;exact Bl.mp this.symm
    subst this;refine h _ _ (.eV R ⟨_,_,rfl⟩ ?_);rw[ej];exact V1
   ·refine concat_meets ⟨_,g,rfl⟩ ⟨_,g',rfl⟩ noFill_tuple_add seq_tuple_add PySem.F.slot_tuple_add PySem.F.entry_tuple_add (PySem.F.args_tuple_add_2 _ _) (tuple_addW2 t t' vs D_ 0 0 none none #[] #[] hv hw hsz) ⟨g,g',?_⟩;exact fin _ rfl
 ·rename_i a _ b;cases o<;>first|change e|skip
  obtain⟨t,vs,k,rfl,g,rr⟩:=ei R px q1;obtain⟨t',D_,k',rfl,g',Sz⟩:=ei R py q2;have hf:fits (a++b)=true:=(fj e).1;have hsz:vs.size+D_.size<=sizeLine:=by rw[rr.size,Sz.size];have:=dh hf;rw[dS]at this;have:=dH;lia
  refine concat_meets ⟨_,g,rfl⟩ ⟨_,g',rfl⟩ noFill_list_add seq_list_add PySem.F.slot_list_add PySem.F.entry_list_add (PySem.F.args_list_add_2 _ _) (list_addW t t' vs D_ k k' none none #[] #[] hsz) ⟨g,g',?_⟩;obtain⟨aJ,L',a',b',c',d'⟩:=jC (l:=a++b) (vs:=vs++D_) (k:=0) (h':=s.heap.push (gW (vs++D_) 0)) R R.new (λb o _ _ e=>h_ _ e) (jK _ rfl) (by rw[Array.toList_append];exact rr.append Sz) e;exact h _ _ (.now a' b' c' ⟨_,_,rfl⟩ d')
end
theorem zp{wr:List Addr}{s s':Shared}(m:Moved wr (λa b=>b=a) s s'):cS s s':=by obtain⟨h,g,d,t,o⟩:=s;obtain⟨h',g',d',t',o'⟩:=s';obtain⟨_,m1,m2,m3,_⟩:=m;dsimp only at m1 m2 m3;subst m1 m2 m3;exact⟨h',t',rfl⟩
section
variable{E:Value->Shared->Prop}{cl:Nat->Addr}{ρ:bU}
theorem vF(hh:A.handled=none){d:Addr}{es:Array DictEntry}{n:Nat}{l:List (D×D)}(g:s.heap.get? d=some (eW es n))(q:gb w.params cl ρ l es.toList)(ok:kj l)(f:jn l=true)(ns:d≠sysModules)(hn:l.length<=sizeLine)
  {Q:List Value->Shared->Prop} (h:∀s' (acc:Array Value),cS s s'->(∀b o,s.heap.get? b=some o->s'.heap.get? b=some o)->ItemsOf (λi v=>∃x,(l.map (·.1))[i]?=some x/\VR w.params cl ρ x v) acc (l.map (·.1)).length->Q acc.toList s'):
  ~~~(collect (.ref d)) Q E s:=by
 have hd:=Heap.lt_size g;refine wpAny_bind (wpAny_runValue (codeAny_builtin PySem.F.entry_proto_collect ?_));rw[Around.under_plainId PySem.F.plain_proto_collect _];show wpAny _ A.in1 (newList []>>=λl=>again (.builtin "list.__iadd__" ⟨[l,.ref d],[]⟩)) _ _ s;refine wpAny_bind (wpAny_newObj_type ?_);refine wpAny_pure ⟨plainId_quiet PySem.F.plain_list_iadd _,codeAny_builtin PySem.F.entry_list_iadd ?_⟩;rw[Around.under_plainId PySem.F.plain_list_iadd _];show wpAny _ A.in1 (Builtin.List.listExtendWith (.ref s.heap.objs.size) (.ref d) (.ref s.heap.objs.size)) _ _ _;have g1:(s.heap.push {cls:= .type "list",data:= .seq ([]:List Value).toArray}).get? d=some (eW es n):=h_ _ g;refine wpAny_bind (wpAny_typeOf (T:="dict") ⟨_,g1,rfl⟩ ?_);have h1:Builtin.List.listSameRef (.ref s.heap.objs.size) (.ref d)=false:=by simp[Builtin.List.listSameRef,Nat.ne_of_gt hd]
 have h2:(Value.type "dict"==Value.type "list")=false:=by decide
 have h3:(Value.type "dict"==Value.type "tuple")=false:=by decide
 refine wpAny_ite_split (λgX=>absurd gX (by rw[h1,h2,h3];decide)) λ_=>?_;refine wpAny_bind (ud (A:=A.in1) (s:={s with heap:=s.heap.push {cls:= .type "list",data:= .seq ([]:List Value).toArray}}) hh g1 q ok f ns λo ho hI=>?_);have sz:(s.heap.push {cls:= .type "list",data:= .seq ([]:List Value).toArray}).objs.size=s.heap.objs.size+1:=Heap.size_push ..;rw[sz]at hI⊢;generalize hS:s.heap.push {cls:= .type "list",data:= .seq ([]:List Value).toArray}=H1 at*
 refine wpAny_bind (wpAny_holding (kdl_hint_dict (s:={s with heap:=H1.push o}) ⟨_,h_ _ g1,rfl⟩ ?_));rw[if_pos];rotate_left
 ·decide+kernel
 refine wpAny_bind (wpAny_rule ?_);refine wpAny_bind ?_;show wpAny _ A.in1 (updateSeq s.heap.objs.size (·.push .none)>>=λ_=>updateSeq s.heap.objs.size (·.pop)) _ _ _;have Ia:H1.get? s.heap.objs.size=some {cls:= .type "list",data:= .seq ([]:List Value).toArray}:=by rw[<-hS];exact jK _ rfl
 have Me:(H1.push o).get? s.heap.objs.size=some {cls:= .type "list",data:= .seq ([]:List Value).toArray}:=h_ _ Ia;refine wpAny_bind (wpAny_updateSeq (s:={s with heap:=H1.push o}) Me rfl ?_);have Mf:=Heap.get?_update_self (Obj.mapSeq (·.push Value.none)) Me rfl;refine wpAny_updateSeq (s:={s with heap:=(H1.push o).update s.heap.objs.size (Obj.mapSeq (·.push Value.none))}) Mf rfl ?_;have WY:=Heap.get?_update_self (Obj.mapSeq (·.pop)) Mf rfl;have QH:∀b ob,b≠s.heap.objs.size->(H1.push o).get? b=some ob->(((H1.push o).update s.heap.objs.size (Obj.mapSeq (·.push Value.none))).update s.heap.objs.size (Obj.mapSeq (·.pop))).get? b=some ob:=
  λb ob hb e=>(Heap.get?_update_other _ _ (gA hb)).trans ((Heap.get?_update_other _ _ (gA hb)).trans e)
 obtain⟨St,W,st,_⟩:=(hI A.in1 hh).ex;have W':=W.toS;have hSf:s.heap.objs.size∉[s.heap.objs.size+1,d]:=by
  intro m;simp only[dJ,yz,or_false]at m;rcases m with m|m
  ·exact absurd m (sX (yD _))
  ·exact absurd m (Nat.ne_of_gt hd)
 refine wpAny_pure ⟨plainId_quiet PySem.F.plain_extend_loop _,codeAny_extend_loopS W' (by rw[eT];exact hn) _ hSf _ _ 0 _ _ _ rfl (eJ _)
  (W.frame 0 _ _ st λb hb ob e=>QH b ob (λz=>hSf (z▸hb)) e) WY (ItemsOf.nil _) λs' acc' c' hm hS' hacc=>?_⟩
 show wpAny _ A (load s.heap.objs.size>>=_) _ _ s';refine wpAny_bind (wpAny_load hS' (wpAny_pure ?_));refine h s' acc' ?_ ?_ hacc
 ·exact(cS.mk s _ s.toks).trans (zp hm)
 ·intro b ob e;have hb:=Heap.lt_size e;refine hm.heap b ob ?_ (QH b ob (sX hb) ?_)
  ·intro m;simp only[dJ,yz,or_false]at m;rcases m with m|m
   ·exact absurd m (sX hb)
   ·exact absurd m (sX (Nat.lt_succ_of_lt hb))
  ·refine h_ _ ?_;rw[<-hS];exact h_ _ e
end
theorem pN(x:Int):∀l:List Int,l.Pairwise (·<=·)->(insI x l).Pairwise (·<=·)
 |[],_=>List.pairwise_singleton _ _
 |y::r,h=>by
  dsimp only[insI];rw[yC]at h;split
  ·rename_i q;rw[yC,yC];exact⟨λz hz=>by rcases dJ.mp hz with rfl|hz;exact q;exact Int.le_trans q (h.1 z hz),h⟩
  ·rename_i q;rw[yC];refine⟨λz hz=>?_,pN x r h.2⟩;rcases dJ.mp ((insI_perm x r).subset hz)with rfl|hz
   ·omega
   ·exact h.1 z hz
theorem nU:∀l:List Int,(sortI l).Pairwise (·<=·)
 |[]=>List.Pairwise.nil
 |x::r=>pN x _ (nU r)
theorem tA{a b:List Int}(p:a.Perm b)(ha:a.Pairwise (·<=·))(hb:b.Pairwise (·<=·)):a=b:=
 p.eq_of_pairwise (le:=(·<=·)) (λx y _ _ h1 h2=>Int.le_antisymm h1 h2) ha hb
theorem zq{a:D}{t:List D}{is:List Int}{P:Prop}(e:intsOf (a::t)=some is)(k:∀i js,a= .int i->intsOf t=some js->is=i::js->P):P:=by have e:ioK (intsOf t) a=some is:=e;cases a<;>first|exact noS e|exact aL e λjs h q=>k _ js rfl h (fh q).symm
theorem intsAre_of{P:Params}{cl:Nat->Addr}{ρ:bU}{items:List D}{is:List Int}{acc:Array Value}(e:intsOf items=some is)(h:ItemsOf (λi v=>∃x,items[i]?=some x/\VR P cl ρ x v) acc items.length):IntsAre acc.toList is:=by
 have hs:acc.toList.length=items.length:=h.1;have hp:∀j v,acc.toList[j]?=some v->∃x,items[j]?=some x/\VR P cl ρ x v:=λj v e=>h.2 j v (by simpa using e);clear h;generalize acc.toList=l at hs hp⊢;induction items generalizing is l with
 |nil=>
  cases e;have:l=[]:=Bl.mp hs;subst this;exact .nil
 |cons a r ih=>
  refine zq e λi js ea hj ee=>?_;subst ea ee;cases l with
  |nil=>cases hs
  |cons v t=>
   obtain⟨x,h1,h2⟩:=hp 0 v rfl;cases h1;obtain⟨tk,zq59⟩:=iJ h2;rw[zq59];exact .cons _ tk (ih hj t (by simpa using hs) λj u e=>by have:=hp (j+1) u (by simpa using e);simpa using this)
theorem GW{P:Params}{cl:Nat->Addr}{ρ:bU}{vs:List Value}{ns:List Int}(h:IntsAre vs ns):dB P cl ρ (ns.map .int) vs:=by
 induction h with
 |nil=>exact trivial
 |cons n t h ih=>exact⟨QF,ih⟩
section
variable{E:Value->Shared->Prop}{T:bk}{ρ:bU}{L:Lo}{σ aN:PS}
theorem GX(R:Rep T ρ L σ s.heap)(hP:T.P=w.params)(hh:A.handled=none){v r:PV}{u:Value}(p:cv T ρ L v u)(e:builtin .sorted v σ=some (r,aN)){Q:Value->Shared->Prop}(h:∀u s',jZ T ρ L s r aN u s'->Q u s'):
  ~~~(call (.builtin "sorted") [u]) Q E s:=by
 refine aL e λc q e=>?_;cases c<;>first|change e|skip
 rename_i l;refine aL e λis hi e=>?_;refine dN e λsR e=>?_;have sR:is.length<64:=by rwa [Nat.blt_eq]at sR
 obtain⟨d,es,k,zq78,g,rr,ns,ok⟩:=gP R p q;rw[zq78];have fl:jn l=true:=by
  cases l with
  |nil=>rfl
  |cons a t=>
   rw[kg]at hi;refine zq hi λi js z _ _=>?_;show Nat.ble (cy a.1) 2=true;rw[z];rfl
 have il:∀(x:List D) (y:List Int),intsOf x=some y->y.length=x.length:=by
  intro x;induction x with
  |nil=>intro y e;rw[<-fh (show some []=some y from e)];rfl
  |cons a t ih=>
   intro y e;refine zq e λi js _ hj q=>?_;rw[q,fw,fw,ih js hj]
 have hll:l.length<64:=by have:=il _ _ hi;rw[eT]at this;omega
 refine Calls.call_function_entry kind_sorted plain_sorted entry_sorted (args_sorted1 _) ?_;refine wpAny_bind (m:=checkCount "sorted" 1 1 _) (wpAny_pure ?_);refine wpAny_bind (vF (ρ:=ρ) (cl:=T.cl) (A:=A.in1) hh g (hP▸rr) ok fl ns (by have:=dH;lia) λs' acc sm kp hI=>?_);have hA:=intsAre_of hi hI;have hal:acc.toList.length<64:=by have:=hI.1;rw[eT]at this;rw[Array.length_toList];omega
 have R1:=R.heap λb o _ e=>kp b o e;refine wpAny_bind (wpAny_newList ?_ (by have:=dH;lia));have hoL:(s'.heap.push (seqObj "list" acc.toList.toArray 0)).get? s'.heap.objs.size=some (seqObj "list" acc.toList.toArray 0):=jK _ rfl;refine wpAny_bind (wpAny_holding (wpAny_call_entry slot_list_sort ⟨_,hoL,rfl⟩ entry_list_sort (list_sort_tree hoL hA hal λout ns' a1 a2 a3=>⟨_,rfl,?_⟩) (args_list_sort _)));refine wpAny_pure ⟨_,rfl,?_⟩;obtain⟨ep,g2⟩:=sortedHeap_at (out:=out) hoL;have e2:=tA (a2.trans (sortI_perm is).symm) a3 (nU is);subst e2;have old:∀b o,b≠s'.heap.objs.size->s'.heap.get? b=some o->(sortedHeap (s'.heap.push (seqObj "list" acc.toList.toArray 0)) s'.heap.objs.size acc.toList out).get? b=some o:=λb o hb e=>by have sR:=Heap.lt_size e;rw[sortedHeap_old hb (by rw[size_push'];exact Nat.lt_succ_of_lt sR)];exact h_ _ e
 obtain⟨aJ,L',a',b',c',d'⟩:=jC (l:=(sortI is).map .int) (vs:=out) (k:=ep) R1 R1.new (λb o hb _ e=>old b o hb e) g2 (GW a1) e;exact h _ _ ((After.now a' b' c' ⟨_,_,rfl⟩ d').from .refl .refl sm)
end
def QI:sN->CmpOp
 | .eq=> .Eq| .ne=> .NotEq| .lt=> .Lt| .le=> .LtE| .gt=> .Gt| .ge=> .GtE| .is=> .Is| .RY=> .IsNot| .isin=> .In| .eX=> .NotIn
section
variable{E:Value->Shared->Prop}{T:bk}{ρ:bU}{L:Lo}{σ aN:PS}
theorem QJ(R:Rep T ρ L σ s.heap)(hP:T.P=w.params)(hu:A.units+100<cLine){x y:PV}{u v:Value}{b:Bool}(px:cv T ρ L x u)(py:cv T ρ L y v)(e:isIn σ x y=some b){Q:Value->Shared->Prop}
  (h:∀t,Q (.bool b) {s with toks:=t}): ~~~(compareOp .In u v) Q E s:=by
 cases x<;>first|change e|skip
 rename_i k;refine aL e λc q e=>?_;cases c<;>first|change e|skip
 ·exact GK (P:=T.P) (cl:=T.cl) (.inr (kP R py q)) (VR.rd R.nS px) hu e (by have:=h s.toks;exact this)
 ·exact GK (P:=T.P) (cl:=T.cl) (.inl (kP R py q)) (VR.rd R.nS px) hu e (by have:=h s.toks;exact this)
 ·refine dN e λdk e=>?_;cases e;obtain⟨d,es,n,rfl,g,rr,ns,ok⟩:=gP R py q;exact Ask.in_ (cl:=T.cl) (ρ:=ρ) ⟨R.nS,by omega,g,hP▸rr,ok,dk,hP▸px,ns⟩ (by omega) h
theorem J_(R:Rep T ρ L σ s.heap)(hP:T.P=w.params)(hu:A.units+100<cLine){x y:PV}{u v:Value}{b:Bool}(px:cv T ρ L x u)(py:cv T ρ L y v)(e:isIn σ x y=some b){Q:Value->Shared->Prop}
  (h:∀t,Q (.bool (!b)) {s with toks:=t}): ~~~(compareOp .NotIn u v) Q E s:=by
 cases x<;>first|change e|skip
 rename_i k;refine aL e λc q e=>?_;cases c<;>first|change e|skip
 ·exact t_ (P:=T.P) (cl:=T.cl) (.inr (kP R py q)) (VR.rd R.nS px) hu e (by have:=h s.toks;exact this)
 ·exact t_ (P:=T.P) (cl:=T.cl) (.inl (kP R py q)) (VR.rd R.nS px) hu e (by have:=h s.toks;exact this)
 ·refine dN e λdk e=>?_;cases e;obtain⟨d,es,n,rfl,g,rr,ns,ok⟩:=gP R py q;exact Ask.WM (cl:=T.cl) (ρ:=ρ) ⟨R.nS,by omega,g,hP▸rr,ok,dk,hP▸px,ns⟩ (by omega) h
theorem jb{x:PV}{u:Value}(p:cv T ρ L x u):(u==Value.none)=isNone x:=by
 cases x with
 |d x=>
  have p:VR T.P T.cl ρ x u:=p;cases x
  ·subst p;rfl
  ·subst p;rfl
  ·obtain⟨t,rfl⟩:=p;rfl
  ·obtain⟨t,rfl,_⟩:=p;rfl
  ·obtain⟨_,_,rfl,_⟩:=p;rfl
  ·obtain⟨_,_,_,rfl,_⟩:=p;rfl
  ·obtain⟨_,_,_,rfl,_⟩:=p;rfl
  ·obtain⟨_,_,_,rfl,_⟩:=p;rfl
  ·obtain⟨_,_,_,_,rfl,_⟩:=p;rfl
 |ax n=>obtain⟨_,rfl⟩:=p;rfl
 |aI n=>obtain⟨_,rfl⟩:=p;rfl
theorem rW{x:PV}{u:Value}(p:cv T ρ L x u):plainIs u .none=true:=by
 cases x with
 |d x=>
  have p:VR T.P T.cl ρ x u:=p;cases x
  ·subst p;rfl
  ·subst p;rfl
  ·obtain⟨t,rfl⟩:=p;rfl
  ·obtain⟨t,rfl,_⟩:=p;rfl
  ·obtain⟨_,_,rfl,_⟩:=p;rfl
  ·obtain⟨_,_,_,rfl,_⟩:=p;rfl
  ·obtain⟨_,_,_,rfl,_⟩:=p;rfl
  ·obtain⟨_,_,_,rfl,_⟩:=p;rfl
  ·obtain⟨_,_,_,_,rfl,_⟩:=p;rfl
 |ax n=>obtain⟨_,rfl⟩:=p;rfl
 |aI n=>obtain⟨_,rfl⟩:=p;rfl
theorem qK{o:sN}{x y:PV}{b:Bool}(e:Oc o x y=some b):∃i j,x= .d (.int i)/\y= .d (.int j)/\Ob o i j=some b:=by
 cases x with
 |d x=>
  cases x<;>first|exact noS e|skip
  cases y with
  |d y=>cases y<;>first|exact noS e|exact⟨_,_,rfl,rfl,e⟩
  |_=>exact noS e
 |_=>exact noS e
theorem ue(R:Rep T ρ L σ s.heap)(hP:T.P=w.params)(hu:A.units+100<cLine){o:sN}{x y:PV}{u v:Value}{b:Bool}(px:cv T ρ L x u)(py:cv T ρ L y v)(e:compare o x y σ=some b){Q:Value->Shared->Prop}
  (h:∀t,Q (.bool b) {s with toks:=t}): ~~~(compareOp (QI o) u v) Q E s:=by
 have h0:Q (.bool b) s:=by have:=h s.toks;exact this
 cases o
 ·refine aL e λc q1 e=>?_;refine aL e λd q2 e=>?_;exact Qz (P:=T.P) (cl:=T.cl) (kP R px q1) (kP R py q2) hu e h0
 ·refine aL e λb' q e=>?_;cases e;refine aL q λc q1 q=>?_;refine aL q λd q2 q=>?_;exact QA (P:=T.P) (cl:=T.cl) (kP R px q1) (kP R py q2) hu q h0
 ·obtain⟨i,j,rfl,rfl,e⟩:=qK e;obtain⟨t,rfl⟩:=bV px;obtain⟨t',rfl⟩:=bV py;cases e;exact PyProof.Rows.lt_int h0
 ·obtain⟨i,j,rfl,rfl,e⟩:=qK e;obtain⟨t,rfl⟩:=bV px;obtain⟨t',rfl⟩:=bV py;cases e;exact PyProof.Rows.le_int h0
 ·obtain⟨i,j,rfl,rfl,e⟩:=qK e;obtain⟨t,rfl⟩:=bV px;obtain⟨t',rfl⟩:=bV py;cases e;exact PyProof.Rows.gt_int h0
 ·obtain⟨i,j,rfl,rfl,e⟩:=qK e;obtain⟨t,rfl⟩:=bV px;obtain⟨t',rfl⟩:=bV py;cases e;exact PyProof.Rows.ge_int h0
 ·refine dN e λn e=>?_;cases e;have:v= .none:=by have:=jb py;rw[n]at this;exact cj this
  subst this;exact wpAny_is_plain (rW px) (by rw[jb px];exact h0)
 ·refine dN e λn e=>?_;cases e;have:v= .none:=by have:=jb py;rw[n]at this;exact cj this
  subst this;exact wpAny_isNot_plain (rW px) (by rw[jb px];exact h0)
 ·exact QJ R hP hu px py e h
 ·refine aL e λb' q e=>?_;cases e;exact J_ R hP hu px py q h
theorem QK(R:Rep T ρ L σ s.heap)(hP:T.P=w.params)(hu:A.units+100<cLine){o:PV}{k x:D}{u i v:Value}(po:cv T ρ L o u)(pk:VR T.P T.cl ρ k i)(px:VR T.P T.cl ρ x v)(e:σ.Dk o k x=some aN){Q:Unit->Shared->Prop}
  (h:∀s',After T ρ L s aN s' (λ_ _=>True)->Q () s'): ~~~(setItem u i v) Q E s:=by
 refine aL e λl q e=>?_;refine dN e λdk e=>?_;rw[bx]at dk;obtain⟨d,es,n,rfl,g,rr,ns,ok⟩:=gP R po (mB q);refine Ask.setItem (cl:=T.cl) (ρ:=ρ) ⟨R.nS,by omega,g,hP▸rr,ok,dk.1,hP▸pk,ns⟩ (by omega) (hP▸px) dk.2 λh' t vD n' g' sb r'=>?_;exact h _ (.eV (pM R po e (ok.put dk.1) g' (hP▸r') sb.extBut) ⟨_,_,rfl⟩ trivial)
theorem QL(R:Rep T ρ L σ s.heap)(hP:T.P=w.params)(hu:A.units+100<cLine){o:PV}{k:D}{u i:Value}(po:cv T ρ L o u)(pk:VR T.P T.cl ρ k i)(e:σ.II o k=some aN){Q:Unit->Shared->Prop}
  (h:∀s',After T ρ L s aN s' (λ_ _=>True)->Q () s'): ~~~(delItem u i) Q E s:=by
 refine aL e λl q e=>?_;refine dN e λdk e=>?_;rw[bx,bx]at dk;obtain⟨d,es,n,rfl,g,rr,ns,ok⟩:=gP R po (mB q);refine Ask.delItem (cl:=T.cl) (ρ:=ρ) ⟨R.nS,by omega,g,hP▸rr,ok,dk.1.1,hP▸pk,ns⟩ (by omega) dk.1.2 dk.2 λh' t vD n' g' sb r'=>?_;exact h _ (.eV (pM R po e ok.del g' (hP▸r') sb.extBut) ⟨_,_,rfl⟩ trivial)
set_option backward.match.sparseCases true in
theorem Ea{d:Addr}{es:Array DictEntry}{n:Nat}{l:List (D×D)}{k:D}{u:Value}(a:Ask w T.cl ρ A s d es n l k u)(hu:A.units+72<cLine)(more:Option (D×Value))(hm:∀p,more=some p->VR w.params T.cl ρ p.1 p.2)
  {Q:Value->Shared->Prop} (h:∀v t,VR w.params T.cl ρ ((kA k l).getD ((more.map (·.1)).getD .none)) v->Q v {s with toks:=t}):
  ~~~(call (.builtin "dict.get") (.ref d::u::(more.map (·.2)).toList)) Q E s:=by
 have fin:∀r t,Got w.params T.cl ρ l k r->∀v,v=r.getD ((more.map (·.2)).getD .none)->Q v {s with toks:=t}:=by
  rintro r t g v rfl;refine h _ t ?_;unfold Got at g;cases z:kA k l with
  |some x=>rw[z]at g;obtain⟨v,rfl,hv⟩:=g;exact hv
  |none=>
   rw[z]at g;subst g;cases more with
   |none=>show VR _ _ _ .none .none;rfl
   |some p=>exact hm p rfl
 have body:∀dflt:Value,dflt=(more.map (·.2)).getD .none->wpAny (model prog w) A.in1 (do
   if let some v<-dictGet d u then return<-ret v
   match<-Builtin.Dict.missed d u with
   |some v=>ret v
   |none=>ret dflt) (λfin s'=>∃v,fin= .done (.ret v)/\Q v s') E s:=λdflt hd=>by
  refine wpAny_bind ((a.in1 (by omega)).get λr t g=>?_);have fin:=fin r t g;cases r with
  |some v=>exact wpAny_pure ⟨v,rfl,fin v rfl⟩
  |none=>exact wpAny_bind (wpAny_missed_other (qJ a.sys) (wpAny_pure ⟨dflt,rfl,fin dflt hd⟩))
 cases more with
 |none=>exact wpAny_call_entry PySem.F.slot_dict_get a.type PySem.F.entry_dict_get (body .none rfl) (PySem.F.args_dict_get_2 _ _)
 |some p=>exact wpAny_call_entry PySem.F.slot_dict_get a.type PySem.F.entry_dict_get (body p.2 rfl) (PySem.F.args_dict_get_3 _ _ _)
end
theorem zr{T:bk}{ρ:bU}{L:Lo}{x:PV}{u:Value}(p:cv T ρ L x u):handedIn u=true:=by
 cases x with
 |d x=>
  have p:=p;cases x
  ·subst p;rfl
  ·subst p;rfl
  ·obtain⟨t,rfl⟩:=p;rfl
  ·obtain⟨t,rfl,_⟩:=p;rfl
  ·obtain⟨_,_,rfl,_⟩:=p;rfl
  ·obtain⟨_,_,_,rfl,_⟩:=p;rfl
  ·obtain⟨_,_,_,rfl,_⟩:=p;rfl
  ·obtain⟨_,_,_,rfl,_⟩:=p;rfl
  ·obtain⟨_,_,_,_,rfl,_⟩:=p;rfl
 |ax n=>obtain⟨_,rfl⟩:=p;rfl
 |aI n=>obtain⟨_,rfl⟩:=p;rfl
section
variable{T:bk}{ρ:bU}{L:Lo}{σ aN:PS}{h h':Heap}
theorem GY(R:Rep T ρ L σ h){v v':PV}{u:Value}(p:cv T ρ L v u)(e:σ.eV v=some (v',aN)):∃aJ L',gc ρ aJ/\L.le L'/\Rep T aJ L' aN h/\cv T aJ L' v' u:=by
 cases v with
 |d x=>cases e;exact⟨ρ,L,.refl,.refl,R,p⟩
 |ax n=>cases e;exact⟨ρ,L,.refl,.refl,R,p⟩
 |aI n=>
  obtain⟨p1,rfl⟩:=p;have main:∀(t:TO) (m:MO) (o:Obj),σ.tm[n]?=some t->ρ (L.t n)= .own (.t n)->h.get? (L.t n)=some o->
    (∀L':Lo,L'.p σ.pm.length=L.t n->o9 T (up ρ (L.t n) (.own (.p σ.pm.length))) L' h σ.pm.length m)->
    ∃aJ L',gc ρ aJ/\L.le L'/\Rep T aJ L' ⟨σ.pm++[m],σ.tm.set n .dead⟩ h/\cv T aJ L' (.ax σ.pm.length) (.ref (L.t n)):=by
   intro t m o q ow g c;have im:bg ρ (up ρ (L.t n) (.own (.p σ.pm.length))):=dw λo'=>by rw[ow];intro z;cases z
   let L':Lo:=⟨λk=>if k=σ.pm.length then L.t n else L.p k,L.d,L.t,L.np+1,L.nt⟩;have ll:L.le L':=⟨qT _,dA _,λk hk=>by show(if k=σ.pm.length then L.t n else L.p k)=_;rw[if_neg (sX (R.np▸hk))],λ_ _=>rfl,λ_ _=>rfl⟩
   have Lb:L'.p σ.pm.length=L.t n:=by show(if _ then L.t n else _)=L.t n;rw[if_pos rfl]
   refine⟨_,L',⟨im,λa o' e=>?_⟩,ll,⟨by show L.np+1=(σ.pm++[m]).length;rw[R.np,dS];rfl,by show L.nt=(σ.tm.set n .dead).length;rw[R.nt,gq],λa=>?_,λk m' e=>?_,λk m' e=>?_⟩,?_⟩
   ·have gX:a≠L.t n:=λz=>by rw[z,ow]at e;cases e
    rw[a8 gX];exact e
   ·by_cases z:a=L.t n
    ·subst z;rw[aO];exact⟨o,g⟩
    ·rw[a8 z];exact R.role a
   ·by_cases hk:k<σ.pm.length
    ·have e':σ.pm[k]?=some m':=by rw[<-e];exact(mM hk).symm
     refine(R.ax k m' e').keep im ll (by rw[R.np];exact hk) λa g' hg z=>?_;have gX:a≠L.t n:=λy=>by rw[y,ow]at z;cases z;rcases hg with hg|hg<;>cases hg
     exact⟨by rw[a8 gX];exact z,λ_ ho=>ho⟩
    ·have hl:=br e
     replace hl:=dS▸hl
     have:k=σ.pm.length:=Nat.le_antisymm (Nat.le_of_lt_succ hl) (Nat.not_lt.mp hk);subst this;have:m'=m:=by simpa using e.symm
     rw[this];exact c L' Lb
   ·by_cases hk:k=n
    ·subst hk;rw[pQ (br q)]at e;cases e;trivial
    ·replace e:=(bq (gA hk))▸e
     refine(R.aI k m' e).keep im ll (by rw[R.nt];exact br e) λa z=>?_;have gX:a≠L.t n:=λy=>by rw[y,ow]at z;cases z;exact hk rfl
     exact⟨by rw[a8 gX];exact z,λ_ ho=>ho⟩
   ·exact⟨by show _<L.np+1;rw[R.np];exact yD _,by rw[Lb]⟩
  refine aL e λy q e=>?_;cases y<;>cases e
  ·rename_i l;obtain⟨ow,vs,k,g,r⟩:=R.aI n _ q;exact main _ (.list l) _ q ow g λL' hL=>⟨by rw[hL,aO],vs,k,by rw[hL];exact g,dB.mono (dw λo'=>by rw[ow];intro z;cases z) r⟩
  ·rename_i l;obtain⟨ow,z,es,k,g,r⟩:=R.aI n _ q;exact main _ (.dict l) _ q ow g λL' hL=>⟨by rw[hL,aO],⟨by rw[hL];exact z.1,z.2⟩,es,k,by rw[hL];exact g,gb.mono (dw λo'=>by rw[ow];intro z;cases z) r⟩
end
section
variable{E:Value->Shared->Prop}{T:bk}{ρ:bU}{L:Lo}{σ aN:PS}
theorem GZ(ok:dG T w)(K:hJ T ρ)(R:Rep T ρ L σ s.heap){o x:PV}{u:Value}{a:Nat}(po:cv T ρ L o u)(e:σ.E_ o a=some x)(ha:a<T.nA){ex:Bool}{Q:Value->Shared->Prop}
  (h:∀v t,cv T ρ L x v->Q v {s with toks:=t}): ~~~(getAttr u (T.an a) ex) Q E s:=by
 cases o<;>first|exact noS e|skip
 rename_i n;obtain⟨_,rfl⟩:=po;refine aL e λm q e=>?_;cases m<;>first|change e|skip
 rename_i C fs;exact J1 ok K R q ha e (λv hv=>h v _ hv) λv hv=>zr hv
theorem G0(ok:dG T w)(K:hJ T ρ)(R:Rep T ρ L σ s.heap){o x:PV}{u v:Value}{a:Nat}(po:cv T ρ L o u)(px:cv T ρ L x v)(e:σ.wz o a x=some aN)(ha:a<T.nA){Q:Unit->Shared->Prop}
  (h:∀s',After T ρ L s aN s' (λ_ _=>True)->Q () s'): ~~~(setAttr u (T.an a) v) Q E s:=by
 cases o<;>first|exact noS e|skip
 rename_i n;obtain⟨_,rfl⟩:=po;have hnt:∀m,x= .aI m->False:=by rintro m rfl;exact noS e
 have e:ai (X0 σ n a x) σ.pm[n]?=some aN:=by cases x<;>first|exact noS e|exact e
 refine aL e λm q e=>?_;cases m<;>first|change e|skip
 rename_i C fs;refine dN e λhlen e=>?_;cases e;have hx:Qy x=true:=by cases x<;>first|rfl|exact(hnt _ rfl).elim
 have hlen:=IH hlen;obtain⟨o1,o2,c,es,k,d,v'⟩:=R.ax n _ q;have I:PySem.W.InstAt s.heap (L.p n) (D2 (T.cl C) (L.d n)) (T.cl C) (some (eW es k)):=⟨c,rfl,rfl,d⟩;have XK:=K.in R;have hz:=v'.length.symm;have hl:(lookIn (T.an a) (eW es k)).isSome=true:=by
  unfold lookIn;dsimp only;split
  ·rfl
  ·rw[v'.refKey];rfl
 have e1:=putName_dict (T.an a) (PyData.keyHash w.params (T.an a)) (.str (T.an a) (s.toks+1)) v es.toList k;have e0:dictOf es.toList k=eW es k:=rfl
 replace e1:=e0▸e1
 have xO:(Obj.putName (T.an a) (PyData.keyHash w.params (T.an a)) (.str (T.an a) (s.toks+1)) v (eW es k)).isFreed=false:=by rw[e1];rfl
 have rE:(putL (T.an a) (PyData.keyHash w.params (T.an a)) (.str (T.an a) (s.toks+1)) v es.toList).length<=1000:=by
  have:=(my.put (x:=x) ok ha px hx (PyData.keyHash w.params (T.an a)) (s.toks+1) v').length;rw[<-this];have:∀(l:List (Nat×PV)),(s7 a x l).length<=l.length+1:=by
   intro l;induction l with
   |nil=>exact dA _
   |cons p r ih=>
    obtain⟨b,y⟩:=p;dsimp only[s7];split
    ·simp
    ·simp only[fw];omega
  have:=this fs;omega
 have hg:=ok.get C;refine set_plain XK I (ok.set C) (J0 (s:={s with toks:=s.toks+1}) XK I rfl (ok.over C) ?_ (ok.dict C) hl rfl (by rw[e1]) rE ?_)
 ·unfold takerIn;rw[ok.attr C a ha];rfl
 ·have g':=Heap.get?_update_self (Obj.putName (T.an a) (PyData.keyHash w.params (T.an a)) (.str (T.an a) (s.toks+1)) v) d xO;rw[e1]at g';have sb:Heap.SameBut (L.d n) s.heap (s.heap.update (L.d n) (Obj.putName (T.an a) (PyData.keyHash w.params (T.an a)) (.str (T.an a) (s.toks+1)) v)):=Heap.SameBut.update ..;have npd:L.p n≠L.d n:=λz=>by rw[z,o2]at o1;cases o1
  refine h _ (.eV (R.zh q (.inr rfl) o2 sb.extBut ⟨_,g'⟩ ⟨o1,o2,sb.extBut _ _ npd c,(putL (T.an a) (PyData.keyHash w.params (T.an a)) (.str (T.an a) (s.toks+1)) v es.toList).toArray,_,g',?_⟩) ⟨_,_,rfl⟩ trivial);exact my.put ok ha px hx _ _ v'
theorem Eb(R:Rep T ρ L σ s.heap){o:PV}{i:Int}{u:Value}{sl:Addr}{t:Tok}(po:cv T ρ L o u)(e:σ.qw o (.int i)=some aN)
  (hs:s.heap.IsSliceOf sl (.int i t) .none .none) {Q:Unit->Shared->Prop} (h:∀s',After T ρ L s aN s' (λ_ _=>True)->Q () s'): ~~~(delItem u (.ref sl)) Q E s:=by
 refine aL e λl q e=>?_;refine dN e λhc e=>?_;rw[bx,bx,dK]at hc;obtain⟨a,vs,k,rfl,g,r⟩:=ei R po (mA q);refine vE g hc.1.1 hs (λh' k' g' sb=>?_) (by rw[r.size];have:=dh hc.2;have:=dH;lia);refine h _ (.eV (kQ R po e g' ?_ sb.extBut) ⟨_,_,rfl⟩ trivial);exact dB.take _ r
end
def rX(o:Obj)(m:Str->Option Value):Prop:=∃es ep,o.data= .dict es ep/\StrKeys es/\∀name,nsFind es name=m name
theorem uf{h:Heap}{a:Addr}{o:Obj}{m:Str->Option Value}(g:h.get? a=some o)(n:rX o m):h.Ns a m:=by obtain⟨es,ep,r⟩:=n;exact⟨o,es,ep,g,r⟩
theorem AV{h:Heap}{a:Addr}{m:Str->Option Value}(n:h.Ns a m):∃o,h.get? a=some o/\rX o m:=by obtain⟨o,es,ep,g,r⟩:=n;exact⟨o,g,es,ep,r⟩
structure cL (T:bk) (ρ:bU) (L:Lo) (env:Env) (nm:List Str) (ls:Ls):Prop where
 fn:env.scope.kind= .function
 J':env.globals=mainGlobals
 Mg:env.builtins=builtinsNs
 loc:∃o m,ρ env.locals= .aY o/\rX o m/\∀(i:Nat) (x:Str) (v:PV),nm[i]?=some x->ls[i]?=some (some v)->env.kindOf x=some .local->∃u,m x=some u/\cv T ρ L v u
 Mh:∀(i:Nat) (x:Str) (v:PV),nm[i]?=some x->ls[i]?=some (some v)->env.kindOf x=some .cell->∃c o u,env.cells.lookup x=some c/\ρ c= .aY o/\o.data= .cell (some u)/\cv T ρ L v u
structure dR (ρ:bU) (env:Env):Prop where
 all:∀x,env.kindOf x=some .cell->∃c o v,env.cells.lookup x=some c/\ρ c= .aY o/\o.data= .cell v
 apart:∀x y c,env.cells.lookup x=some c->env.cells.lookup y=some c->x=y
 xm:∀x c,env.cells.lookup x=some c->c≠env.locals
section
variable{T:bk}{ρ aJ:bU}{L L':Lo}{env:Env}{nm:List Str}{ls:Ls}
theorem cL.mono(F:cL T ρ L env nm ls)(a:gc ρ aJ)(b:L.le L'):cL T aJ L' env nm ls:=by
 obtain⟨fn,J',Mg,⟨o,m,h1,h2,h3⟩,Mh⟩:=F;refine⟨fn,J',Mg,⟨o,m,a.aY _ _ h1,h2,λi x v e1 e2 e3=>?_⟩,λi x v e1 e2 e3=>?_⟩
 ·obtain⟨u,p,q⟩:=h3 i x v e1 e2 e3;exact⟨u,p,cv.mono a.bB b q⟩
 ·obtain⟨c,o',u,p1,p2,p3,p4⟩:=Mh i x v e1 e2 e3;exact⟨c,o',u,p1,a.aY _ _ p2,p3,cv.mono a.bB b p4⟩
theorem dR.mono(F:dR ρ env)(a:gc ρ aJ):dR aJ env:=
 ⟨λx e=>by obtain⟨c,o,v,p1,p2,p3⟩:=F.all x e;exact⟨c,o,v,p1,a.aY _ _ p2,p3⟩,F.apart,F.xm⟩
variable{E:Value->Shared->Prop}{σ:PS}
theorem WZ(F:cL T ρ L env nm ls)(R:Rep T ρ L σ s.heap){i:Nat}{x:Str}{v:PV}{pos:Pos}(hx:nm[i]?=some x)(hv:ls[i]?=some (some v))(hk:env.kindOf x=some .local\/env.kindOf x=some .cell)
  (hd:(x==("__debug__":Str))=false) {Q:Value->Shared->Prop} (h:∀u,cv T ρ L v u->Q u s): ~~~(PySem.eval (.Name x pos) env) Q E s:=by
 rcases hk with hk|hk
 ·obtain⟨o,m,h1,h2,h3⟩:=F.loc;obtain⟨u,p,q⟩:=h3 i x v hx hv hk;exact wpAny_Name (wpAny_loadName_local F.fn hk (uf (R.aY h1) h2) p (h u q)) hd
 ·obtain⟨c,o,u,p1,p2,p3,p4⟩:=F.Mh i x v hx hv hk;exact wpAny_Name (wpAny_loadName_cell F.fn hk p1 ⟨o,R.aY p2,p3⟩ (h u p4)) hd
theorem zt(F:cL T ρ L env nm ls)(K:hJ T ρ)(R:Rep T ρ L σ s.heap){x:Str}{v:Value}{pos:Pos}(hk:env.kindOf x=some .globalImplicit)(e:nsIn T.K mainGlobals x=some (some v))
  (hd:(x==("__debug__":Str))=false) {Q:Value->Shared->Prop} (h:Q v s): ~~~(PySem.eval (.Name x pos) env) Q E s:=by
 refine wpAny_Name ?_ hd;rw[loadName_read F.fn hk];unfold loadGlobal;rw[F.J'];exact wpAny_bind ((looks_nsIn (K.in R) e).here (wpAny_pure h))
theorem QM(F:cL T ρ L env nm ls)(K:hJ T ρ)(R:Rep T ρ L σ s.heap){x:Str}{v:Value}{pos:Pos}(hk:env.kindOf x=some .globalImplicit)(e:nsIn T.K mainGlobals x=some none)(e2:nsIn T.K builtinsNs x=some (some v))
  (hd:(x==("__debug__":Str))=false) {Q:Value->Shared->Prop} (h:Q v s): ~~~(PySem.eval (.Name x pos) env) Q E s:=by
 refine wpAny_Name ?_ hd;rw[loadName_read F.fn hk];unfold loadGlobal;rw[F.J',F.Mg];exact wpAny_bind ((looks_nsIn (K.in R) e).here (wpAny_bind ((looks_nsIn (K.in R) e2).here (wpAny_pure h))))
structure jD (env:Env) (ρ aJ:bU):Prop where
 bB:bg ρ aJ
 aY:∀a o,a≠env.locals->(∀x,env.cells.lookup x≠some a)->ρ a= .aY o->aJ a= .aY o
theorem gc.toF(x:gc ρ aJ):jD env ρ aJ:=⟨x.bB,λa o _ _ e=>x.aY a o e⟩
theorem jD.trans{ao aZ cV:bU}(x:jD env ao aZ)(y:jD env aZ cV):jD env ao cV:=⟨x.bB.trans y.bB,λa o h1 h2 e=>y.aY a o h1 h2 (x.aY a o h1 h2 e)⟩
theorem jD.refl:jD env ρ ρ:=⟨bg.refl,λ_ _ _ _ e=>e⟩
def once(nm:List Str)(i:Nat)(x:Str):Prop:=nm[i]?=some x/\∀j:Nat,nm[j]?=some x->j=i
theorem qL(F:cL T ρ L env nm ls)(O:dR ρ env)(R:Rep T ρ L σ s.heap){i:Nat}{x:Str}{v:PV}{u:Value}(hx:once nm i x)(hk:env.kindOf x=some .local\/env.kindOf x=some .cell)(p:cv T ρ L v u)
  {Q:Unit->Shared->Prop} (h:∀s' aJ,jD env ρ aJ->Rep T aJ L σ s'.heap->cS s s'->cL T aJ L env nm (ls.set i (some v))->dR aJ env->Q () s'): ~~~(storeName env x u) Q E s:=by
 obtain⟨o,m,h1,h2,h3⟩:=F.loc;have look:∀(j:Nat) (y:Str) (w':PV),nm[j]?=some y->(ls.set i (some v))[j]?=some (some w')->(y=x/\w'=v)\/(y≠x/\ls[j]?=some (some w')):=by
  intro j y w' e1 e2;by_cases hj:j=i
  ·subst hj;have hy:y=x:=by rw[hx.1]at e1;exact(fh e1).symm
   by_cases hl:j<ls.length
   ·rw[pQ hl]at e2;exact .inl ⟨hy,by simpa using e2.symm⟩
   ·rw[List.getElem?_eq_none (by rw[gq];omega)]at e2;cases e2
  ·rw[bq (gA hj)]at e2;exact .inr ⟨λz=>hj (hx.2 j (z▸e1)),e2⟩
 rcases hk with hk|hk
 ·refine wpAny_storeName_local hk (uf (R.aY h1) h2) (λh' hn sb=>?_) (by rw[F.fn];rfl);obtain⟨o',g',n'⟩:=AV hn;have R':=R.takes (b:=env.locals) (r:= .aY o') (.inr ⟨o,h1⟩) (λa oa ha _ e=>sb.extBut a oa ha e) g';have im:bg ρ (up ρ env.locals (.aY o')):=dw λq=>by rw[h1];intro z;cases z
  have cf:∀y c oc,env.cells.lookup y=some c->ρ c= .aY oc->up ρ env.locals (.aY o') c= .aY oc:=λy c oc e1 e2=>by rw[a8 (O.xm y c e1)];exact e2
  refine h _ _ ⟨im,λa oa ha _ e=>by rw[a8 ha];exact e⟩ R' ⟨_,_,rfl⟩ ⟨F.fn,F.J',F.Mg,⟨o',_,aO,n',λj y w' e1 e2 e3=>?_⟩,λj y w' e1 e2 e3=>?_⟩
   ⟨λy e=>by obtain⟨c,oc,vc,p1,p2,p3⟩:=O.all y e;exact⟨c,oc,vc,p1,cf y c oc p1 p2,p3⟩,O.apart,O.xm⟩
  ·rcases look j y w' e1 e2 with⟨rfl,rfl⟩|⟨hy,QN⟩
   ·exact⟨u,by simp,cv.mono im .refl p⟩
   ·obtain⟨u',q1,q2⟩:=h3 j y w' e1 QN e3;exact⟨u',by simp[hy,q1],cv.mono im .refl q2⟩
  ·rcases look j y w' e1 e2 with⟨rfl,rfl⟩|⟨hy,QN⟩
   ·rw[hk]at e3;cases e3
   ·obtain⟨c,oc,u',p1,p2,p3,p4⟩:=F.Mh j y w' e1 QN e3;exact⟨c,oc,u',p1,cf y c oc p1 p2,p3,cv.mono im .refl p4⟩
 ·obtain⟨c,oc,vc,p1,p2,p3⟩:=O.all x hk;refine wpAny_storeName_cell F.fn hk p1 ⟨oc,R.aY p2,p3⟩ λh' hc sb=>?_;obtain⟨o',g',d'⟩:=hc;have R':=R.takes (b:=c) (r:= .aY o') (.inr ⟨oc,p2⟩) (λa oa ha _ e=>sb.extBut a oa ha e) g';have im:bg ρ (up ρ c (.aY o')):=dw λq=>by rw[p2];intro z;cases z
  have cl:=gA (O.xm x c p1);refine h _ _ ⟨im,λa oa _ ha e=>by
   have hac:a≠c:=λz=>ha x (by rw[z];exact p1);rw[a8 hac];exact e⟩ R' ⟨_,_,rfl⟩ ⟨F.fn,F.J',F.Mg,⟨o,m,by rw[a8 cl];exact h1,h2,λj y w' e1 e2 e3=>?_⟩,λj y w' e1 e2 e3=>?_⟩
   ⟨λy e=>?_,O.apart,O.xm⟩
  ·rcases look j y w' e1 e2 with⟨rfl,rfl⟩|⟨hy,QN⟩
   ·rw[hk]at e3;cases e3
   ·obtain⟨u',q1,q2⟩:=h3 j y w' e1 QN e3;exact⟨u',q1,cv.mono im .refl q2⟩
  ·rcases look j y w' e1 e2 with⟨rfl,rfl⟩|⟨hy,QN⟩
   ·exact⟨c,o',u,p1,aO,d',cv.mono im .refl p⟩
   ·obtain⟨c',oc',u',q1,q2,q3,q4⟩:=F.Mh j y w' e1 QN e3;have:c'≠c:=λz=>hy (O.apart y x c (by rw[<-z];exact q1) p1);exact⟨c',oc',u',q1,by rw[a8 this];exact q2,q3,cv.mono im .refl q4⟩
  ·by_cases hy:y=x
   ·subst hy;exact⟨c,o',_,p1,aO,d'⟩
   ·obtain⟨c',oc',v',q1,q2,q3⟩:=O.all y e;have:c'≠c:=λz=>hy (O.apart y x c (by rw[<-z];exact q1) p1);exact⟨c',oc',v',q1,by rw[a8 this];exact q2,q3⟩
end
section
structure Tb where
 gn:Nat->Str
 YM:Nat->Str
 YN:Nat->Bool
 fv:Nat->Addr
 YO:Nat->Str
 mn:Nat->Str
 an:Nat->Str
 nA:Nat
abbrev mD:=List (Str×NameKind)
def isVar(ns:mD)(nm:List Str)(i:Nat)(x:Str):Bool:=nm[i]?==some x&&(ns.lookup x==some .local||ns.lookup x==some .cell)&&!(x==("__debug__":Str))
def qk(ns:mD)(x:Str):Bool:=ns.lookup x==some .globalImplicit&&!(x==("__debug__":Str))
def fo(x:Expr):Bool:=!(Nat.beq x.ctorIdx 22||Nat.beq x.ctorIdx 26)
def dX{γ:Type}{a b:Nat}(f:a=b->Option γ):Option γ:=if h:a=b then f h else none
structure Dx (β α:Type) (mk:α->β) (x:β) where
 d:α
 e:x=mk d
def cC{α:Type}(f:α->Bool):Option α->Bool
 |some d=>f d
 |none=>false
theorem aB{α:Type}{f:α->Bool}{o:Option α}{P:Prop}(h:cC f o=true)(k:∀d,f d=true->P):P:=by
 cases o with
 |some d=>exact k d h
 |none=>cases h
theorem aw{a b:Bool}{P:Prop}(h:(a&&b)=true)(k:a=true->b=true->P):P:=by
 cases a with
 |true=>exact k rfl h
 |false=>cases h
theorem qm{a b:Bool}{P:Prop}(h:(a||b)=true)(k1:a=true->P)(k2:b=true->P):P:=by
 cases a with
 |true=>exact k1 rfl
 |false=>exact k2 h
theorem gy{α:Type}{l:List α}(h:l.isEmpty=true):l=[]:=List.isEmpty_iff.mp h
theorem kW{α:Type}{l:Option α}(h:l.isNone=true):l=none:=Option.isNone_iff_eq_none.mp h
def ma(x:Expr):Option (Dx Expr (Str×Pos) (λd=> .Name d.1 d.2) x):=dX (Expr.Name.elim x · λa b=>some ⟨(a,b),rfl⟩)
def xBin(x:Expr):Option (Dx Expr (Expr×Operator×Expr×Pos) (λd=> .BinOp d.1 d.2.1 d.2.2.1 d.2.2.2) x):=dX (Expr.BinOp.elim x · λa b c d=>some ⟨(a,b,c,d),rfl⟩)
def xCmp(x:Expr):Option (Dx Expr (Expr×List CmpOp×List Expr×Pos) (λd=> .Compare d.1 d.2.1 d.2.2.1 d.2.2.2) x):=dX (Expr.Compare.elim x · λa b c d=>some ⟨(a,b,c,d),rfl⟩)
def xUn(x:Expr):Option (Dx Expr (UnaryOp×Expr×Pos) (λd=> .UnaryOp d.1 d.2.1 d.2.2) x):=dX (Expr.UnaryOp.elim x · λa b c=>some ⟨(a,b,c),rfl⟩)
def Mi(x:Expr):Option (Dx Expr (BoolOp×List Expr×Pos) (λd=> .BoolOp d.1 d.2.1 d.2.2) x):=dX (Expr.BoolOp.elim x · λa b c=>some ⟨(a,b,c),rfl⟩)
def xIf(x:Expr):Option (Dx Expr (Expr×Expr×Expr×Pos) (λd=> .IfExp d.1 d.2.1 d.2.2.1 d.2.2.2) x):=dX (Expr.IfExp.elim x · λa b c d=>some ⟨(a,b,c,d),rfl⟩)
def QO(x:Expr):Option (Dx Expr (List Expr×Nat×Pos) (λd=> .Tuple d.1 d.2.1 d.2.2) x):=dX (Expr.Tuple.elim x · λa b c=>some ⟨(a,b,c),rfl⟩)
def xLst(x:Expr):Option (Dx Expr (List Expr×Pos) (λd=> .List d.1 d.2) x):=dX (Expr.List.elim x · λa b=>some ⟨(a,b),rfl⟩)
def xDic(x:Expr):Option (Dx Expr (List (Option Expr)×List Expr×Pos) (λd=> .Dict d.1 d.2.1 d.2.2) x):=dX (Expr.Dict.elim x · λa b c=>some ⟨(a,b,c),rfl⟩)
def YQ(x:Expr):Option (Dx Expr (Expr×Str×Pos) (λd=> .Attribute d.1 d.2.1 d.2.2) x):=dX (Expr.Attribute.elim x · λa b c=>some ⟨(a,b,c),rfl⟩)
def G2(x:Expr):Option (Dx Expr (Expr×Expr×Pos) (λd=> .Subscript d.1 d.2.1 d.2.2) x):=dX (Expr.Subscript.elim x · λa b c=>some ⟨(a,b,c),rfl⟩)
def W0(x:Expr):Option (Dx Expr (Option Expr×Option Expr×Option Expr×Pos) (λd=> .Slice d.1 d.2.1 d.2.2.1 d.2.2.2) x):=dX (Expr.Slice.elim x · λa b c d=>some ⟨(a,b,c,d),rfl⟩)
def xP(x:Expr):Option (Dx Expr (Expr×List Expr×List Keyword×Pos) (λd=> .Call d.1 d.2.1 d.2.2.1 d.2.2.2) x):=dX (Expr.Call.elim x · λa b c d=>some ⟨(a,b,c,d),rfl⟩)
def W3(x:Expr):Option (Dx Expr (Expr×List Comprehension×Scope×Pos) (λd=> .ListComp d.1 d.2.1 d.2.2.1 d.2.2.2) x):=dX (Expr.ListComp.elim x · λa b c d=>some ⟨(a,b,c,d),rfl⟩)
def W4(x:Expr):Option (Dx Expr (Const×Nat×Pos) (λd=> .Constant d.1 d.2.1 d.2.2) x):=dX (Expr.Constant.elim x · λa b c=>some ⟨(a,b,c),rfl⟩)
def pj(x:Expr):Bool:=((xP x).all λd=>!((ma d.d.1).isSome&&(d.d.2.1.isEmpty&&d.d.2.2.1.isEmpty)))
def W5(x:Const):Option (Dx Const (Int) .int x):=dX (Const.int.elim x · λa=>some ⟨a,rfl⟩)
def kStr(x:Const):Option (Dx Const (Str) .str x):=dX (Const.str.elim x · λa=>some ⟨a,rfl⟩)
def W6(x:Const):Option (Dx Const (Bool) .bool x):=dX (Const.bool.elim x · λa=>some ⟨a,rfl⟩)
def W7(x:Stmt):Option (Dx Stmt (Expr×Pos) (λd=> .Expr d.1 d.2) x):=dX (Stmt.Expr.elim x · λa b=>some ⟨(a,b),rfl⟩)
def Ka(x:Stmt):Option (Dx Stmt (List Expr×Expr×Pos) (λd=> .Assign d.1 d.2.1 d.2.2) x):=dX (Stmt.Assign.elim x · λa b c=>some ⟨(a,b,c),rfl⟩)
def sAug(x:Stmt):Option (Dx Stmt (Expr×Operator×Expr×Pos) (λd=> .AugAssign d.1 d.2.1 d.2.2.1 d.2.2.2) x):=dX (Stmt.AugAssign.elim x · λa b c d=>some ⟨(a,b,c,d),rfl⟩)
def sIf(x:Stmt):Option (Dx Stmt (Expr×List Stmt×List Stmt×Pos) (λd=> .If d.1 d.2.1 d.2.2.1 d.2.2.2) x):=dX (Stmt.If.elim x · λa b c d=>some ⟨(a,b,c,d),rfl⟩)
def W8(x:Stmt):Option (Dx Stmt (Expr×Expr×List Stmt×List Stmt×Pos) (λd=> .For d.1 d.2.1 d.2.2.1 d.2.2.2.1 d.2.2.2.2) x):=dX (Stmt.For.elim x · λa b c d e=>some ⟨(a,b,c,d,e),rfl⟩)
def QP(x:Stmt):Option (Dx Stmt (Expr×List Stmt×List Stmt×Pos) (λd=> .While d.1 d.2.1 d.2.2.1 d.2.2.2) x):=dX (Stmt.While.elim x · λa b c d=>some ⟨(a,b,c,d),rfl⟩)
def sRet(x:Stmt):Option (Dx Stmt (Option Expr×Pos) (λd=> .Return d.1 d.2) x):=dX (Stmt.Return.elim x · λa b=>some ⟨(a,b),rfl⟩)
def W9(x:Stmt):Option (Dx Stmt (Pos) .Pass x):=dX (Stmt.Pass.elim x · λa=>some ⟨a,rfl⟩)
def W_(x:Stmt):Option (Dx Stmt (Pos) .Continue x):=dX (Stmt.Continue.elim x · λa=>some ⟨a,rfl⟩)
def Xa(x:Stmt):Option (Dx Stmt (List Expr×Pos) (λd=> .Delete d.1 d.2) x):=dX (Stmt.Delete.elim x · λa b=>some ⟨(a,b),rfl⟩)
def l1{α:Type}(l:List α):Option (Dx (List α) α (λa=>[a]) l):=match l with
 |[a]=>some ⟨a,rfl⟩
 |_=>none
def lC{α:Type}(l:List α):Option (Dx (List α) (α×List α) (λd=>d.1::d.2) l):=match l with
 |a::r=>some ⟨(a,r),rfl⟩
 |_=>none
def oS{α:Type}(l:Option α):Option (Dx (Option α) α some l):=match l with
 |some a=>some ⟨a,rfl⟩
 |_=>none
def Mj(x:E):Option (Dx E (E×Nat×E×Es) (λd=> .comp d.1 d.2.1 d.2.2.1 d.2.2.2) x):=match x with| .comp a b c d=>some ⟨(a,b,c,d),rfl⟩|_=>none
def litC(d:D)(c:Const):Bool:=match d with
 | .none=>decide (c= .none)
 | .bool b=>cC (λe=>b==e.d) (W6 c)
 | .int i=>cC (λe=>i==e.d) (W5 c)
 | .str l=>cC (λe=>EI l&&e.d==nM l) (kStr c)
 |_=>false
def negC(d:D)(c:Const):Bool:=match d with
 | .int i=>cC (λe=>i==-e.d) (W5 c)
 |_=>false
def QQ(d:D)(x:Expr):Bool:=cC (λc=>litC d c.d.1) (W4 x)||cC (λu=>decide (u.d.1= .USub)&&cC (λc=>negC d c.d.1) (W4 u.d.2.1)) (xUn x)
def G4(o:mU)(p:Operator):Bool:=decide (p=QG o)
def Mk(o:sN)(p:CmpOp):Bool:=decide (p=QI o)
theorem G5{o:mU}{p:Operator}(h:G4 o p=true):p=QG o:=of_decide_eq_true h
theorem QR{o:sN}{p:CmpOp}(h:Mk o p=true):p=QI o:=of_decide_eq_true h
def Ib:BI->Str
 | .len=>"len"| .sorted=>"sorted"| .tuple=>"tuple"| .range=>"range"
def YR:BI->Value
 | .len=> .builtin "len"| .sorted=> .builtin "sorted"| .tuple=> .type "tuple"| .range=> .type "range"
def rel(ns:mD)(cn:mD):mD:=cn.map λ(n,k)=>if (k== .free&&ns.lookup n==some .cell)then(n,.cell)else(n,k)
def zu:Str:=".0"
def rY(nm:List Str)(v:Nat)(x:Str):List Str:=(nm.map λy=>if (y==x||y==zu)then Str.empty else y).set v x
def rZ(ns cn:mD)(x:Str):Bool:=cn.lookup x==some .local&&cn.all λp=>!(p.1==Str.empty)&&match p.2 with
 | .local=>(p.1==x||p.1==zu)&&cn.lookup p.1==some .local
 | .free=>ns.lookup p.1==some .cell
 | .globalImplicit=>true
 |_=>false
def G6:mU->Bool
 | .add=>true
 | .sub=>true
 |_=>false
def zv(x:Expr):Bool:=!Nat.beq x.ctorIdx 25
def noD:D->Bool
 | .none=>true
 |_=>false
def SA:E->Bool
 | .lit d=>noD d
 |_=>false
theorem Ml{e:E}(h:SA e=true):e= .lit .none:=by
 cases e<;>first|change h|skip
 rename_i d;cases d<;>first|rfl|cases h
def vG(x:Expr):Bool:=!Nat.beq x.ctorIdx 7
def r5(x:Expr):Bool:=!(Nat.beq x.ctorIdx 8||(Nat.beq x.ctorIdx 9||Nat.beq x.ctorIdx 10))
def QS:Es->Bool
 | .nil=>true
 |_=>false
mutual
noncomputable def mE (tb:Tb) (ns:mD) (nm:List Str):E->Expr->Bool
 | .lit d,x=>QQ d x
 | .loc i,x=>cC (λd=>isVar ns nm i d.d.1) (ma x)
 | .glob g,x=>cC (λd=>qk ns d.d.1&&d.d.1==tb.gn g) (ma x)
 | .bin o a b,x=>cC (λd=>G4 o d.d.2.1&&(mE tb ns nm a d.d.1&&mE tb ns nm b d.d.2.2.1)) (xBin x)
 | .cmp o a b,x=>cC (λd=>cC (λp=>cC (λr=>Mk o p.d&&(!behindInMarks p.d r.d&&(mE tb ns nm a d.d.1&&mE tb ns nm b r.d))) (l1 d.d.2.2.1)) (l1 d.d.2.1)) (xCmp x)
 | .nt a,x=>cC (λd=>decide (d.d.1= .Not)&&mE tb ns nm a d.d.2.1) (xUn x)
 | .and es,x=>cC (λd=>decide (d.d.1= .And)&&ER tb ns nm es d.d.2.1) (Mi x)
 | .or es,x=>cC (λd=>decide (d.d.1= .Or)&&ER tb ns nm es d.d.2.1) (Mi x)
 | .ite c a b,x=>cC (λd=>mE tb ns nm c d.d.1&&(mE tb ns nm a d.d.2.1&&mE tb ns nm b d.d.2.2.1)) (xIf x)
 | .tup es,x=>cC (λd=>ER tb ns nm es d.d.1) (QO x)
 | .lst es,x=>cC (λd=>ER tb ns nm es d.d.1) (xLst x)
 | .sP es,x=>cC (λd=>(QS es&&(d.d.1.isEmpty&&d.d.2.1.isEmpty))||cC (λk=>cC (λy=>cC (λv=>ER tb ns nm es [y.d,v.d]) (l1 d.d.2.1)) (oS k.d)) (l1 d.d.1)) (xDic x)
 | .attr e a,x=>cC (λd=>d.d.2.1==tb.an a&&(Nat.blt a tb.nA&&(pj d.d.1&&mE tb ns nm e d.d.1))) (YQ x)
 | .sub e i,x=>cC (λd=>fo d.d.2.1&&(mE tb ns nm e d.d.1&&mE tb ns nm i d.d.2.1)) (G2 x)
 | .EH e lo hi,x=>cC (λd=>cC (λs=>mE tb ns nm e d.d.1&&(s.d.2.2.1.isNone&&(((s.d.1.isNone&&SA lo)||cC (λy=>mE tb ns nm lo y.d) (oS s.d.1))&&((s.d.2.1.isNone&&SA hi)||cC (λy=>mE tb ns nm hi y.d) (oS s.d.2.1))))) (W0 d.d.2.1)) (G2 x)
 | .call f es,x=>cC (λd=>cC (λy=>d.d.2.2.1.isEmpty&&(tb.YN f&&(qk ns y.d.1&&(y.d.1==tb.YM f&&ER tb ns nm es d.d.2.1)))) (ma d.d.1)) (xP x)
 | .new c es,x=>cC (λd=>cC (λy=>d.d.2.2.1.isEmpty&&(qk ns y.d.1&&(y.d.1==tb.YO c&&(Nat.blt d.d.2.1.length 30&&ER tb ns nm es d.d.2.1)))) (ma d.d.1)) (xP x)
 | .bi b e,x=>cC (λd=>cC (λy=>cC (λz=>d.d.2.2.1.isEmpty&&(qk ns y.d.1&&(y.d.1==Ib b&&(fo z.d&&mE tb ns nm e z.d)))) (l1 d.d.2.1)) (ma d.d.1)) (xP x)
 | .aR e m es,x=>cC (λd=>cC (λy=>d.d.2.2.1.isEmpty&&(y.d.2.1==tb.mn m&&(pj y.d.1&&((y.d.2.2.endLine==d.d.2.2.2.line)&&(Nat.blt d.d.2.1.length 29&&(mE tb ns nm e y.d.1&&ER tb ns nm es d.d.2.1)))))) (YQ d.d.1)) (xP x)
 | .comp el v it ifs,x=>cC (λd=>cC (λg=>cC (λz=>decide (g.d.is_async=0)&&(d.d.2.2.1.kind== .function&&(rZ ns d.d.2.2.1.names z.d.1&&(vG g.d.iter&&(mE tb ns nm it g.d.iter&&(mE tb (rel ns d.d.2.2.1.names) (rY nm v z.d.1) el d.d.1&&ER tb (rel ns d.d.2.2.1.names) (rY nm v z.d.1) ifs g.d.ifs)))))) (ma g.d.target)) (l1 d.d.2.1)) (W3 x)
 | .bad,_=>true
noncomputable def ER (tb:Tb) (ns:mD) (nm:List Str):Es->List Expr->Bool
 | .nil,xs=>xs.isEmpty
 | .cons e es,xs=>cC (λd=>fo d.d.1&&(mE tb ns nm e d.d.1&&ER tb ns nm es d.d.2)) (lC xs)
end
def mT(ns:mD)(nm:List Str):List Nat->List Expr->Bool
 |[],zs=>zs.isEmpty
 |i::is,zs=>cC (λd=>cC (λz=>isVar ns nm i z.d.1&&mT ns nm is d.d.2) (ma d.d.1)) (lC zs)
mutual
noncomputable def mS (tb:Tb) (ns:mD) (nm:List Str):S->Stmt->Bool
 | .expr e,x=>cC (λd=>r5 d.d.1&&mE tb ns nm e d.d.1) (W7 x)
 | .asg i e,x=>cC (λd=>cC (λt=>cC (λz=>isVar ns nm i z.d.1&&(mE tb ns nm e d.d.2.1&&(r5 d.d.2.1||cC (λ_=>true) (Mj e)))) (ma t.d)) (l1 d.d.1)) (Ka x)
 | .dW o a e,x=>cC (λd=>cC (λt=>cC (λz=>z.d.2.1==tb.an a&&(Nat.blt a tb.nA&&(mE tb ns nm o z.d.1&&mE tb ns nm e d.d.2.1))) (YQ t.d)) (l1 d.d.1)) (Ka x)
 | .ie o i e,x=>cC (λd=>cC (λt=>cC (λz=>fo z.d.2.1&&(mE tb ns nm o z.d.1&&(mE tb ns nm i z.d.2.1&&mE tb ns nm e d.d.2.1))) (G2 t.d)) (l1 d.d.1)) (Ka x)
 | .ki is e,x=>cC (λd=>cC (λt=>cC (λz=>zv d.d.2.1&&(mT ns nm is z.d.1&&mE tb ns nm e d.d.2.1)) (QO t.d)) (l1 d.d.1)) (Ka x)
 | .wu o a op e,x=>cC (λd=>cC (λz=>z.d.2.1==tb.an a&&(Nat.blt a tb.nA&&(G4 op d.d.2.1&&(G6 op&&(mE tb ns nm o z.d.1&&mE tb ns nm e d.d.2.2.1))))) (YQ d.d.1)) (sAug x)
 | .ite c a b,x=>cC (λd=>mE tb ns nm c d.d.1&&(Kb tb ns nm a d.d.2.1&&Kb tb ns nm b d.d.2.2.1)) (sIf x)
 | .gr i it b,x=>cC (λd=>cC (λz=>d.d.2.2.2.1.isEmpty&&(vG d.d.2.1&&(isVar ns nm i z.d.1&&(mE tb ns nm it d.d.2.1&&Kb tb ns nm b d.d.2.2.1)))) (ma d.d.1)) (W8 x)
 | .yJ is it b,x=>cC (λd=>cC (λz=>d.d.2.2.2.1.isEmpty&&(vG d.d.2.1&&(mT ns nm is z.d.1&&(mE tb ns nm it d.d.2.1&&Kb tb ns nm b d.d.2.2.1)))) (QO d.d.1)) (W8 x)
 | .mh c b,x=>cC (λd=>d.d.2.2.1.isEmpty&&(mE tb ns nm c d.d.1&&Kb tb ns nm b d.d.2.1)) (QP x)
 | .ret e,x=>cC (λd=>(d.d.1.isNone&&SA e)||cC (λy=>mE tb ns nm e y.d) (oS d.d.1)) (sRet x)
 | .pass,x=>cC (λ_=>true) (W9 x)
 | .cont,x=>cC (λ_=>true) (W_ x)
 | .sY o i,x=>cC (λd=>cC (λt=>cC (λz=>fo z.d.2.1&&(mE tb ns nm o z.d.1&&mE tb ns nm i z.d.2.1)) (G2 t.d)) (l1 d.d.1)) (Xa x)
 | .yL o lo,x=>cC (λd=>cC (λt=>cC (λz=>cC (λs=>cC (λl=>s.d.2.1.isNone&&(s.d.2.2.1.isNone&&(mE tb ns nm o z.d.1&&mE tb ns nm lo l.d))) (oS s.d.1)) (W0 z.d.2.1)) (G2 t.d)) (l1 d.d.1)) (Xa x)
 | .bad,_=>true
noncomputable def Kb (tb:Tb) (ns:mD) (nm:List Str):Ss->List Stmt->Bool
 | .nil,xs=>xs.isEmpty
 | .cons s r,xs=>cC (λd=>mS tb ns nm s d.d.1&&Kb tb ns nm r d.d.2) (lC xs)
end
end
structure lY (n:Nat) (A:Around):Prop where
 handled:A.handled=none
 depth:A.depth+4*n+10<recursionLimit
 units:A.units+40*n+120<cLine
theorem lY.u{n:Nat}{A:Around}(r:lY n A):A.units+100<cLine:=sU (hZ (qR _ (40*n)) (show 100<=120 by decide)) r.units
def zw(T:bk)(prog:Program)(w:World)(n:Nat)(sp:Spec)(f:Value):Prop:=
 ∀(A:Around) (s:Shared) (ρ:bU) (L:Lo) (σ:PS) (args:List PV) (vals:List Value) (v:PV) (aN:PS),lY n A->hJ T ρ->Rep T ρ L σ s.heap->gG T ρ L args vals->cJ sp args σ=some (v,aN)->
  ~~~(call f vals) (λu s'=>jZ T ρ L s v aN u s') (λ_ _=>False) s
structure tB (T:bk) (tb:Tb) (prog:Program) (w:World) (n:Nat) (X:Cx):Prop where
 an:tb.an=T.an
 nA:tb.nA=T.nA
 glob:∀g d ρ,X.glob g=some d->hJ T ρ->∃v,nsIn T.K mainGlobals (tb.gn g)=some (some v)/\VR T.P T.cl ρ d v
 fn:∀f,(∃a p t r,X.fn f a p t=some r)->(tb.YN f=true->nsIn T.K mainGlobals (tb.YM f)=some (some (.ref (tb.fv f))))/\keepIn T.K (.ref (tb.fv f))=true/\zw T prog w n (X.fn f) (.ref (tb.fv f))
 new:∀c,(∃a p t r,X.new c a p t=some r)->∃C,nsIn T.K mainGlobals (tb.YO c)=some (some (.ref C))/\keepIn T.K (.ref C)=true/\zw T prog w n (X.new c) (.ref C)
 aR:∀C m f,X.aR C m=some f->findIn T.K (.ref (T.cl C)) (tb.mn m)=some (some (.ref (tb.fv f)))/\typeIn T.K (.ref (tb.fv f))=some (.type "function")/\keepIn T.K (.ref (tb.fv f))=true/\∀a,a<T.nA->T.an a≠tb.mn m
 bi:∀b,nsIn T.K mainGlobals (Ib b)=some none/\nsIn T.K builtinsNs (Ib b)=some (some (YR b))
 sys:(T.K.lookup sysModules).isSome=true
 bm:tb.mn mV="append"/\tb.mn E'="pop"/\tb.mn IJ="get"
section
variable{T:bk}{tb:Tb}{n:Nat}{X:Cx}{env:Env}
abbrev lH:Value->Shared->Prop:=λ_ _=>False
theorem xQ(h:Heap)(id:String):∃k,(k=Keeper.frame\/k=Keeper.machine\/k=Keeper.boundFrame)/\Looks (model prog w) h (keeperOf (.builtin id)) k:=⟨.machine,.inr (.inl rfl),Looks.of_pure rfl⟩
theorem G7(h:Heap)(id:String):∃k,(k=Keeper.frame\/k=Keeper.machine\/k=Keeper.boundFrame)/\Looks (model prog w) h (keeperOf (.type id)) k:=⟨.machine,.inr (.inl rfl),Looks.of_pure rfl⟩
theorem r7{f:Value}(hk:keepIn T.K f=true)(h:Heap)(x:T.K.In h):∃k,(k=Keeper.frame\/k=Keeper.machine\/k=Keeper.boundFrame)/\Looks (model prog w) h (keeperOf f) k:=keeps_K hk h x
theorem evalArgs_none{M:Model}{f:Value}{Q:Args->Shared->Prop}{E:Value->Shared->Prop}(h:wpAny M A (spliced []) (λvs s'=>Q ⟨vs,[]⟩ s') E s):wpAny M A (evalArgs f true [] []) Q E s:=by show wpAny M A (spliced []>>=_) Q E s;refine wpAny_bind (wpAny_mono h (λvs s' h'=>?_) λ_ _ x=>x);refine wpAny_bind (wpAny_pure ?_);refine wpAny_holding ?_;exact wpAny_bind (wpAny_pure (wpAny_bind (wpAny_pure (wpAny_pure h'))))
theorem iM{x:Expr}{xs:List Expr}(h:fo x=true):starEach (x::xs) env=(false,PySem.eval x env)::starEach xs env:=by cases x<;>first|rfl|cases h
theorem ug{pos:Pos}:∀{xs:List Expr},(∀x∈xs,fo x=true)->(backTo pos (starEach xs env)).any (·.1)=false
 |[],_=>rfl
 |x::xs,h=>by rw[iM (h x (.head _))];show(false||(backTo pos (starEach xs env)).any (·.1))=false;rw[ug λy hy=>h y (.tail _ hy)];rfl
theorem all_plain{pos:Pos}:∀{xs:List Expr},(∀x∈xs,fo x=true)->(backTo pos (starEach xs env)).all (λx=>!x.1)=true
 |[],_=>rfl
 |x::xs,h=>by rw[iM (h x (.head _))];show(true&&(backTo pos (starEach xs env)).all (λx=>!x.1))=true;rw[all_plain λy hy=>h y (.tail _ hy)];rfl
theorem lI{ns:mD}{nm:List Str}:∀{es:Es} {xs:List Expr},ER tb ns nm es xs=true->∀x∈xs,fo x=true
 | .nil,xs,h,x,hx=>by have e:=gy h;subst e;cases hx
 | .cons e es,xs,h,x,hx=>by
  refine aB h λd h=>aw h λh0 h=>aw h λ_ h=>?_
  replace hx:=d.e▸hx
  rcases dJ.mp hx with rfl|hx
  ·exact h0
  ·exact lI h x hx
theorem r8{o:Expr}{a:Str}(hs:pj o=true):attributeBase o a env (PySem.eval o env)=PySem.eval o env:=by
 cases o<;>first|rfl|skip
 rename_i f as ks p;cases f<;>first|rfl|skip
 cases as<;>first|rfl|skip
 cases ks<;>first|rfl|cases hs
theorem jE{f:Value}{first:List Value}{xs:List Expr}{pos:Pos}{Q:Value->Shared->Prop}{E:Value->Shared->Prop}(hk:∀h:Heap,T.K.In h->∃k,(k=Keeper.frame\/k=Keeper.machine\/k=Keeper.boundFrame)/\Looks (model prog w) h (keeperOf f) k)
  (hp:∀x∈xs,fo x=true) (h: ~~~(spliced (backTo pos (starEach xs env))) (λvs aC=>T.K.In aC.heap/\~~~(call f (first++vs)) Q E aC) E s):
  ~~~(callWith pos f first (backTo pos (starEach xs env)) []) Q E s:=by
 cases xs with
 |nil=>
  exact callWith_of (P:=T.K.In) rfl hk (evalArgs_none h)
 |cons x xs=>
  have e:=iM (env:=env) (xs:=xs) (hp x (.head _));rw[e]at h⊢;have a:=ug (env:=env) (pos:=pos) λy hy=>hp y (.tail _ hy);exact callWith_of (P:=T.K.In) (by show((false||(backTo pos (starEach xs env)).any (·.1))||false)=false;rw[a];rfl) hk (evalArgs_plain h)
end
section
variable(T:bk)(prog:Program)(w:World)(A:Around)(X:Cx)(env:Env)(nm:List Str)
def bO(e:E)(x:Expr):Prop:=∀ls σ s ρ L v aN,hJ T ρ->cL T ρ L env nm ls->Rep T ρ L σ s.heap->eval X e ls σ=some (v,aN)->~~~(PySem.eval x env) (λu s'=>jZ T ρ L s v aN u s') lH s
def kX(es:Es)(xs:List Expr):Prop:=∀pos ls σ s ρ L vs aN,hJ T ρ->cL T ρ L env nm ls->Rep T ρ L σ s.heap->iX X es ls σ=some (vs,aN)->
 ~~~(spliced (backTo pos (starEach xs env))) (λus s'=>After T ρ L s aN s' λaJ L'=>gG T aJ L' vs us) lH s
def j7(e:E)(x:Expr):Prop:=∀ls σ s ρ L b aN,hJ T ρ->cL T ρ L env nm ls->Rep T ρ L σ s.heap->test X e ls σ=some (b,aN)->~~~(PySem.isTrue x env (PySem.eval x env)) (λc s'=>c=b/\After T ρ L s aN s' λ_ _=>True) lH s
end
section
variable{T:bk}{X:Cx}{env:Env}{nm:List Str}
theorem SD{P:Prop}:False->P:=False.elim
theorem bO.aV{e:E}{x:Expr}(h:bO T prog w A X env nm e x){ls:Ls}{σ aj:PS}{s:Shared}{ρ:bU}{L:Lo}{v:PV}(K:hJ T ρ)(F:cL T ρ L env nm ls)(R:Rep T ρ L σ s.heap)(q:eval X e ls σ=some (v,aj)){Q:Value->Shared->Prop}
  (k:∀u aC ao aQ,gc ρ ao->L.le aQ->Rep T ao aQ aj aC.heap->cS s aC->cv T ao aQ v u->hJ T ao->cL T ao aQ env nm ls->Q u aC): ~~~(PySem.eval x env) Q lH s:=by
 refine wpAny_mono (h ls σ s ρ L v aj K F R q) (λu aC p=>?_) λ_ _ z=>z;obtain⟨ao,aQ,a,b,c,d,z⟩:=p;exact k u aC ao aQ a b c d z (K.mono a) (F.mono a b)
theorem kX.aV{es:Es}{xs:List Expr}(h:kX T prog w A X env nm es xs){pos:Pos}{ls:Ls}{σ aj:PS}{s:Shared}{ρ:bU}{L:Lo}{vs:List PV}(K:hJ T ρ)(F:cL T ρ L env nm ls)(R:Rep T ρ L σ s.heap)(q:iX X es ls σ=some (vs,aj)){Q:List Value->Shared->Prop}
  (k:∀us aC ao aQ,gc ρ ao->L.le aQ->Rep T ao aQ aj aC.heap->cS s aC->gG T ao aQ vs us->hJ T ao->cL T ao aQ env nm ls->Q us aC): ~~~(spliced (backTo pos (starEach xs env))) Q lH s:=by
 refine wpAny_mono (h pos ls σ s ρ L vs aj K F R q) (λu aC p=>?_) λ_ _ z=>z;obtain⟨ao,aQ,a,b,c,d,z⟩:=p;exact k u aC ao aQ a b c d z (K.mono a) (F.mono a b)
theorem j7.aV{e:E}{x:Expr}(h:j7 T prog w A X env nm e x){ls:Ls}{σ aj:PS}{s:Shared}{ρ:bU}{L:Lo}{b:Bool}(K:hJ T ρ)(F:cL T ρ L env nm ls)(R:Rep T ρ L σ s.heap)(q:test X e ls σ=some (b,aj)){Q:Bool->Shared->Prop}
  (k:∀aC ao aQ,gc ρ ao->L.le aQ->Rep T ao aQ aj aC.heap->cS s aC->hJ T ao->cL T ao aQ env nm ls->Q b aC): ~~~(PySem.isTrue x env (PySem.eval x env)) Q lH s:=by
 refine wpAny_mono (h ls σ s ρ L b aj K F R q) (λc aC p=>?_) λ_ _ z=>z;obtain⟨zq33,ao,aQ,a,b',c,d,_⟩:=p;rw[zq33];exact k aC ao aQ a b' c d (K.mono a) (F.mono a b')
theorem AW:kX T prog w A X env nm .nil []:=by intro pos ls σ s ρ L vs aN K F R q;exists q;exact spliced_none (.eV R (.refl s) trivial)
theorem xR{e:E}{es:Es}{x:Expr}{xs:List Expr}(hx:fo x=true)(h1:bO T prog w A X env nm e x)(h2:kX T prog w A X env nm es xs):kX T prog w A X env nm (.cons e es) (x::xs):=by intro pos ls σ s ρ L vs aN K F R q;refine aF q λv aj q1 q=>?_;refine aF q λus aM q2 q=>?_;exists q;refine spliced_more ?_ (iM hx);refine h1.aV K F R q1 λu aC ao aQ a b c d p bw bu=>?_;refine h2.aV bw bu c q2 λus bG aZ eM a' b' c' d' p' ip j8=>?_;exact .now (a.trans a') (b.trans b') c' (d.trans d') ⟨cv.mono a'.bB b' p,p'⟩
theorem QT{d:D}{x:Expr}(h:QQ d x=true):bO T prog w A X env nm (.lit d) x:=by
 intro ls σ s ρ L v aN K F R q;exists q;refine qm h (λh=>aB h λc h=>?_) λh=>aB h λu h=>aw h λhu h=>aB h λc h=>?_
 ·rw[c.e];cases d with
  |none=>
   rw[of_decide_eq_true h];exact wpAny_Constant_none (.eV R (.refl s) kU)
  |bool b=>
   refine aB h λe h=>?_;rw[e.e,<-fg.mp h];exact wpAny_Constant_bool (.eV R (.refl s) rT)
  |int i=>
   refine aB h λe h=>?_;rw[e.e,<-fg.mp h];exact wpAny_Constant_int (.eV R ⟨_,_,rfl⟩ j5)
  |str l=>
   refine aB h λe h=>aw h λh1 h2=>?_;rw[e.e,cj h2];exact wpAny_Constant_str (.eV R ⟨_,_,rfl⟩ (show VR T.P T.cl ρ (.str l) _ by exact⟨_,rfl,h1⟩))
  |_=>cases h
 ·cases d with
  |int i=>
   refine aB h λe h=>?_;rw[u.e,c.e,e.e,of_decide_eq_true hu,fg.mp h];exact wpAny_UnaryOp (wpAny_Constant_int (PySem.P.neg_int (.eV R ⟨_,_,rfl⟩ j5)))
  |_=>cases h
theorem QU{i:Nat}{x:Str}{p:Pos}(hn:∀y,env.kindOf y=env.scope.names.lookup y)(h:isVar env.scope.names nm i x=true):bO T prog w A X env nm (.loc i) (.Name x p):=by intro ls σ s ρ L v aN K F R q;refine aL q λv' hv q=>?_;cases v'<;>cases q;unfold isVar at h;rw[bx,bx,mO]at h;obtain⟨⟨h1,h2⟩,h3⟩:=h;refine WZ F R (cj h1) hv ?_ (by simpa using h3) λu hu=> .eV R (.refl s) hu;rw[hn];exact h2.imp (λz=>cj z) (λz=>cj z)
theorem QV{o:mU}{a b:E}{l r:Expr}{p:Pos}(h1:bO T prog w A X env nm a l)(h2:bO T prog w A X env nm b r):bO T prog w A X env nm (.bin o a b) (.BinOp l (QG o) r p):=by intro ls σ s ρ L v aN K F R q;refine aF q λkx aj q1 q=>?_;refine aF q λzx aM q2 q=>?_;refine wpAny_BinOp (h1.aV K F R q1 λu aC ao aQ a b c d p bw bu=>h2.aV bw bu c q2 λu' bG aZ eM a' b' c' d' p' ip j8=>?_);exact J9 c' (cv.mono a'.bB b' p) p' q λu'' fH P=>P.from (a.trans a') (b.trans b') (d.trans d')
theorem QW(hP:T.P=w.params)(hu:A.units+100<cLine){o:sN}{a b:E}{l r:Expr}{p:Pos}(hb:behindInMarks (QI o) r=false)(h1:bO T prog w A X env nm a l)(h2:bO T prog w A X env nm b r):bO T prog w A X env nm (.cmp o a b) (.Compare l [QI o] [r] p):=by intro ls σ s ρ L v aN K F R q;refine aF q λkx aj q1 q=>?_;refine aF q λzx aM q2 q=>?_;refine aL q λbb q3 q=>?_;exists q;refine wpAny_Compare1 (h1.aV K F R q1 λu aC ao aQ a b c d p bw bu=>h2.aV bw bu c q2 λu' bG aZ eM a' b' c' d' p' ip j8=>?_) hb;exact ue c' hP hu (cv.mono a'.bB b' p) p' q3 λt=> .now (a.trans a') (b.trans b') c' ((d.trans d').trans ⟨_,_,rfl⟩) rT
theorem QX(hP:T.P=w.params)(hu:A.units+100<cLine){o:sN}{a b:E}{l r:Expr}{p:Pos}(hb:behindInMarks (QI o) r=false)(h1:bO T prog w A X env nm a l)(h2:bO T prog w A X env nm b r):j7 T prog w A X env nm (.cmp o a b) (.Compare l [QI o] [r] p):=by intro ls σ s ρ L v aN K F R q;refine aF q λv₀ σ₀ q0 q=>?_;refine aF q0 λkx aj q1 q0=>?_;refine aF q0 λzx aM q2 q0=>?_;refine aL q0 λbb q3 q0=>?_;cases q0;have qq:=q;cases qq;refine wpAny_isTrue_Compare1 (h1.aV K F R q1 λu aC ao aQ a b c d p bw bu=>h2.aV bw bu c q2 λu' bG aZ eM a' b' c' d' p' ip j8=>?_) hb;exact ue c' hP hu (cv.mono a'.bB b' p) p' q3 λt=>wpAny_truthy_bool ⟨rfl,.now (a.trans a') (b.trans b') c' ((d.trans d').trans ⟨_,_,rfl⟩) trivial⟩
theorem Xb{a:E}{x:Expr}{p:Pos}(h1:bO T prog w A X env nm a x):bO T prog w A X env nm (.nt a) (.UnaryOp .Not x p):=by intro ls σ s ρ L v aN K F R q;refine aF q λkx aj q1 q=>?_;refine aL q λb q2 q=>?_;exists q;refine wpAny_UnaryOp (h1.aV K F R q1 λu aC ao aQ a b c d p bw bu=>?_);refine not_of (lG c p q2 λt=>?_);exact .now a b c (d.trans ⟨_,_,rfl⟩) rT
theorem Xc{a:E}{x:Expr}{p:Pos}(h1:j7 T prog w A X env nm a x):j7 T prog w A X env nm (.nt a) (.UnaryOp .Not x p):=by intro ls σ s ρ L v aN K F R q;refine aF q λb aj q1 q=>?_;exists q;exact isTrue_not (h1.aV K F R q1 λaC ao aQ a b c d bw bu=>⟨rfl,.now a b c d trivial⟩)
theorem QY{c a b:E}{t x y:Expr}{p:Pos}(h0:j7 T prog w A X env nm c t)(h1:bO T prog w A X env nm a x)(h2:bO T prog w A X env nm b y):bO T prog w A X env nm (.ite c a b) (.IfExp t x y p):=by
 intro ls σ s ρ L v aN K F R q;refine aF q λb0 aj q1 q=>?_;cases b0;rotate_left
 ·refine wpAny_IfExp (h0.aV K F R q1 λaC ao aQ a b c d bw bu=>?_);rw[if_pos rfl];exact wpAny_mono (h1 _ _ _ _ _ _ _ bw bu c q) (λu bG P=>P.from a b d) λ_ _ z=>z
 ·refine wpAny_IfExp (h0.aV K F R q1 λaC ao aQ a b c d bw bu=>?_);rw[if_neg ∅];exact wpAny_mono (h2 _ _ _ _ _ _ _ bw bu c q) (λu bG P=>P.from a b d) λ_ _ z=>z
theorem QZ{c a b:E}{t x y:Expr}{p:Pos}(h0:j7 T prog w A X env nm c t)(h1:j7 T prog w A X env nm a x)(h2:j7 T prog w A X env nm b y):j7 T prog w A X env nm (.ite c a b) (.IfExp t x y p):=by
 intro ls σ s ρ L v aN K F R q;refine aF q λb0 aj q1 q=>?_;cases b0;rotate_left
 ·refine isTrue_IfExp (h0.aV K F R q1 λaC ao aQ a b c d bw bu=>?_);rw[if_pos rfl];exact wpAny_mono (h1 _ _ _ _ _ _ _ bw bu c q) (λu bG P=>⟨P.1,P.2.from a b d⟩) λ_ _ z=>z
 ·refine isTrue_IfExp (h0.aV K F R q1 λaC ao aQ a b c d bw bu=>?_);rw[if_neg ∅];exact wpAny_mono (h2 _ _ _ _ _ _ _ bw bu c q) (λu bG P=>⟨P.1,P.2.from a b d⟩) λ_ _ z=>z
theorem Q0{es:Es}{xs:List Expr}{k:Nat}{p:Pos}(h:kX T prog w A X env nm es xs):bO T prog w A X env nm (.tup es) (.Tuple xs k p):=by intro ls σ s ρ L v aN K F R q;refine aF q λvs aj q1 q=>?_;refine aF q λys aM q2 q=>?_;refine dN q λhf q=>?_;exists q;refine wpAny_Tuple (h.aV K F R q1 λus aC ao aQ a b c d p bw bu=>?_);obtain⟨aZ,a',gY,r⟩:=kR c p q2;refine⟨by rw[<-r.length];have:=dh hf;have:=dH;lia,?_⟩;obtain⟨aJ,x,y,z⟩:=nT (l:=ys) (vs:=us.toArray) (h':=aC.heap.push (lW us.toArray)) gY gY.new (λb o _ _ e=>h_ _ e) (jK _ rfl) (by simpa using r);exact .now ((a.trans a').trans x) b y (d.trans ⟨_,_,rfl⟩) z
theorem Q1{es:Es}{xs:List Expr}{p:Pos}(h:kX T prog w A X env nm es xs):bO T prog w A X env nm (.lst es) (.List xs p):=by intro ls σ s ρ L v aN K F R q;refine aF q λvs aj q1 q=>?_;refine aF q λys aM q2 q=>?_;have hf:=(fj q).1;refine wpAny_List (h.aV K F R q1 λus aC ao aQ a b c d p bw bu=>?_);obtain⟨aZ,a',gY,r⟩:=kR c p q2;refine⟨by rw[<-r.length];have:=dh hf;have:=dH;lia,?_⟩;obtain⟨aJ,L',x,x',y,z⟩:=jC (l:=ys) (vs:=us.toArray) (k:=0) (h':=aC.heap.push (gW us.toArray 0)) gY gY.new (λb o _ _ e=>h_ _ e) (jK _ rfl) (by simpa using r) q;exact .now ((a.trans a').trans x) (b.trans x') y (d.trans ⟨_,_,rfl⟩) z
theorem Kc(ok:dG T w){e:E}{a:Nat}{o:Expr}{p:Pos}(ha:a<T.nA)(hs:pj o=true)(h:bO T prog w A X env nm e o):bO T prog w A X env nm (.attr e a) (.Attribute o (T.an a) p):=by
 intro ls σ s ρ L v aN K F R q;refine aF q λkx aj q1 q=>?_;refine aL q λr q2 q=>?_;exists q;refine Attribute_any_ (h.aV K F R q1 λu aC ao aQ a' b c d p bw bu=>?_) ?_
 ·exact GZ ok bw c p q2 ha λv t hv=> .now a' b c (d.trans ⟨_,_,rfl⟩) hv
 ·rw[arm_eval_Attribute];rw[r8 hs]
theorem Q2(ok:dG T w)(hu:A.units+100<cLine){e i:E}{o j:Expr}{p:Pos}(h1:bO T prog w A X env nm e o)(h2:bO T prog w A X env nm i j):bO T prog w A X env nm (.sub e i) (.Subscript o j p):=by intro ls σ s ρ L v aN K F R q;refine aF q λkx aj q1 q=>?_;refine aF q λzx aM q2 q=>?_;refine aL q λr q3 q=>?_;exists q;refine Subscript_ (h1.aV K F R q1 λu aC ao aQ a b c d p bw bu=>h2.aV bw bu c q2 λu' bG aZ eM a' b' c' d' p' ip j8=>?_);exact QD ok c' hu (cv.mono a'.bB b' p) p' q3 λu t hu=> .now (a.trans a') (b.trans b') c' ((d.trans d').trans ⟨_,_,rfl⟩) hu
end
section
variable(T:bk)(prog:Program)(w:World)(A:Around)(X:Cx)(env:Env)(nm:List Str)
def xS(es:Es)(xs:List Expr):Prop:=∀p ls σ s ρ L v aN,hJ T ρ->cL T ρ L env nm ls->Rep T ρ L σ s.heap->zW X es ls σ=some (v,aN)->~~~(PySem.eval (.BoolOp .And xs p) env) (λu s'=>jZ T ρ L s v aN u s') lH s
def G8(es:Es)(xs:List Expr):Prop:=∀p ls σ s ρ L v aN,hJ T ρ->cL T ρ L env nm ls->Rep T ρ L σ s.heap->Og X es ls σ=some (v,aN)->~~~(PySem.eval (.BoolOp .Or xs p) env) (λu s'=>jZ T ρ L s v aN u s') lH s
def r9(es:Es)(xs:List Expr):Prop:=∀ls σ s ρ L b aN,hJ T ρ->cL T ρ L env nm ls->Rep T ρ L σ s.heap->cx X es ls σ=some (b,aN)->~~~(allTrue .And xs env) (λc s'=>c=b/\After T ρ L s aN s' λ_ _=>True) lH s
def xT(es:Es)(xs:List Expr):Prop:=∀ls σ s ρ L b aN,hJ T ρ->cL T ρ L env nm ls->Rep T ρ L σ s.heap->Fc X es ls σ=some (b,aN)->~~~(allTrue .Or xs env) (λc s'=>c=b/\After T ρ L s aN s' λ_ _=>True) lH s
end
section
variable{T:bk}{tb:Tb}{n:Nat}{X:Cx}{env:Env}{nm:List Str}
theorem vH{sp:Spec}{a:List PV}{σ:PS}{r}(q:cJ sp a σ=some r):∃a p t r,sp a p t=some r:=
 aL (fj q).2 λ_ _ q=>aL q λ_ q _=>⟨_,_,_,_,q⟩
theorem Kd{e:E}{x:Expr}(h:bO T prog w A X env nm e x):xS T prog w A X env nm (.cons e .nil) [x]:=by intro p ls σ s ρ L v aN K F R q;exact BoolOp_one (h _ _ _ _ _ _ _ K F R q)
theorem Q4{e:E}{x:Expr}(h:bO T prog w A X env nm e x):G8 T prog w A X env nm (.cons e .nil) [x]:=by intro p ls σ s ρ L v aN K F R q;exact BoolOp_one (h _ _ _ _ _ _ _ K F R q)
theorem and_cons{e e':E}{es:Es}{x y:Expr}{xs:List Expr}(h1:bO T prog w A X env nm e x)(h2:xS T prog w A X env nm (.cons e' es) (y::xs)):xS T prog w A X env nm (.cons e (.cons e' es)) (x::y::xs):=by
 intro p ls σ s ρ L v aN K F R q;refine aF q λkx aj q1 q=>?_;refine BoolOp_and (h1.aV K F R q1 λu aC ao aQ a b c d fq bw bu=>?_);refine aL q λb0 q2 q=>?_;cases b0;rotate_left
 ·refine lG c fq q2 λt=>?_;rw[if_pos rfl];exact wpAny_mono (h2 _ _ _ _ _ _ _ bw bu (s:={aC with toks:=t}) c q) (λu bG P=>P.from a b (d.trans ⟨_,_,rfl⟩)) λ_ _ z=>z
 ·cases q;refine lG c fq q2 λt=>?_;rw[if_neg ∅];exact .now a b c (d.trans ⟨_,_,rfl⟩) fq
theorem or_cons{e e':E}{es:Es}{x y:Expr}{xs:List Expr}(h1:bO T prog w A X env nm e x)(h2:G8 T prog w A X env nm (.cons e' es) (y::xs)):G8 T prog w A X env nm (.cons e (.cons e' es)) (x::y::xs):=by
 intro p ls σ s ρ L v aN K F R q;refine aF q λkx aj q1 q=>?_;refine BoolOp_or (h1.aV K F R q1 λu aC ao aQ a b c d fq bw bu=>?_);refine aL q λb0 q2 q=>?_;cases b0;rotate_left
 ·cases q;refine lG c fq q2 λt=>?_;rw[if_pos rfl];exact .now a b c (d.trans ⟨_,_,rfl⟩) fq
 ·refine lG c fq q2 λt=>?_;rw[if_neg ∅];exact wpAny_mono (h2 _ _ _ _ _ _ _ bw bu (s:={aC with toks:=t}) c q) (λu bG P=>P.from a b (d.trans ⟨_,_,rfl⟩)) λ_ _ z=>z
theorem xU:r9 T prog w A X env nm .nil []:=by intro ls σ s ρ L v aN K F R q;exists q;exact wpAny_pure ⟨rfl,.eV R (.refl s) trivial⟩
theorem AX:xT T prog w A X env nm .nil []:=by intro ls σ s ρ L v aN K F R q;exists q;exact wpAny_pure ⟨rfl,.eV R (.refl s) trivial⟩
theorem ui{e:E}{es:Es}{x:Expr}{xs:List Expr}(h1:j7 T prog w A X env nm e x)(h2:r9 T prog w A X env nm es xs):r9 T prog w A X env nm (.cons e es) (x::xs):=by
 intro ls σ s ρ L v aN K F R q;refine aF q λb0 aj q1 q=>?_;cases b0;rotate_left
 ·refine wpAny_allTrue_And_cons (h1.aV K F R q1 λaC ao aQ a b c d bw bu=>?_);rw[if_pos rfl];exact wpAny_mono (h2 _ _ _ _ _ _ _ bw bu c q) (λu bG P=>⟨P.1,P.2.from a b d⟩) λ_ _ z=>z
 ·cases q;refine wpAny_allTrue_And_cons (h1.aV K F R q1 λaC ao aQ a b c d bw bu=>?_);rw[if_neg ∅];exact⟨rfl,.now a b c d trivial⟩
theorem xV{e:E}{es:Es}{x:Expr}{xs:List Expr}(h1:j7 T prog w A X env nm e x)(h2:xT T prog w A X env nm es xs):xT T prog w A X env nm (.cons e es) (x::xs):=by
 intro ls σ s ρ L v aN K F R q;refine aF q λb0 aj q1 q=>?_;cases b0;rotate_left
 ·cases q;refine wpAny_allTrue_Or_cons (h1.aV K F R q1 λaC ao aQ a b c d bw bu=>?_);rw[if_pos rfl];exact⟨rfl,.now a b c d trivial⟩
 ·refine wpAny_allTrue_Or_cons (h1.aV K F R q1 λaC ao aQ a b c d bw bu=>?_);rw[if_neg ∅];exact wpAny_mono (h2 _ _ _ _ _ _ _ bw bu c q) (λu bG P=>⟨P.1,P.2.from a b d⟩) λ_ _ z=>z
theorem Q5{es:Es}{xs:List Expr}{p:Pos}(h:r9 T prog w A X env nm es xs):j7 T prog w A X env nm (.and es) (.BoolOp .And xs p):=by intro ls σ s ρ L v aN K F R q;exact wpAny_isTrue_BoolOp (h _ _ _ _ _ _ _ K F R q)
theorem Xd{es:Es}{xs:List Expr}{p:Pos}(h:xT T prog w A X env nm es xs):j7 T prog w A X env nm (.or es) (.BoolOp .Or xs p):=by intro ls σ s ρ L v aN K F R q;exact wpAny_isTrue_BoolOp (h _ _ _ _ _ _ _ K F R q)
def plainT(x:Expr):Bool:=!(Nat.beq x.ctorIdx 0||(Nat.beq x.ctorIdx 5||Nat.beq x.ctorIdx 15))&&((xUn x).all λd=>!Nat.beq d.d.1.ctorIdx 1)
theorem G9{e:E}{x:Expr}(he:ly X e=km (eval X e))(hx:plainT x=true)(h:bO T prog w A X env nm e x):j7 T prog w A X env nm e x:=by
 intro ls σ s ρ L b aN K F R q;have q':ai (cX Of) (eval X e ls σ)=some (b,aN):=(congrArg (·.2 ls σ) he).symm.trans q;refine aF q' λv aj q1 q'=>?_;refine aL q' λc q2 q'=>?_;cases q';have body: ~~~(PySem.eval x env) (λv aC=>~~~(truthy v) (λc s'=>c=b/\After T ρ L s aN s' λ_ _=>True) lH aC) lH s:=
  h.aV K F R q1 λu aC ao aQ a b c d fq bw bu=>lG c fq q2 λt=>⟨rfl,.now a b c (d.trans ⟨_,_,rfl⟩) trivial⟩
 refine isTrue_plain body ?_;cases x<;>first|rfl|change hx|skip
 rename_i op y p;cases op<;>first|rfl|change hx
theorem Ke(lk:tB T tb prog w n X){g:Nat}{x:Str}{p:Pos}(h:qk env.scope.names x=true)(hx:x=tb.gn g):bO T prog w A X env nm (.glob g) (.Name x p):=by intro ls σ s ρ L v aN K F R q;refine aL q λd hd q=>?_;exists q;unfold qk at h;rw[bx]at h;obtain⟨u,h1,h2⟩:=lk.glob g d ρ hd K;subst hx;exact zt F K R (cj h.1) h1 (by simpa using h.2) (.eV R (.refl s) h2)
theorem Xe(ok:dG T w)(hh:A.handled=none)(lk:tB T tb prog w n X){b:BI}{e:E}{x:Str}{y:Expr}{p p':Pos}(h:qk env.scope.names x=true)(hx:x=Ib b)(hy:fo y=true)(h1:bO T prog w A X env nm e y):
  bO T prog w A X env nm (.bi b e) (.Call (.Name x p) [y] [] p'):=by
 intro ls σ s ρ L v aN K F R q;refine aF q λkx aj q1 q=>?_;unfold qk at h;rw[bx]at h;subst hx;obtain⟨b1,b2⟩:=lk.bi b;refine wpAny_Call_NameR (QM F K R (cj h.1) b1 b2 (by simpa using h.2) ?_);refine jE (T:=T) ?_ (λz hz=>by rcases dJ.mp hz with rfl|hz;exact hy;cases hz) ?_
 ·intro hp _;cases b<;>first|exact xQ hp _|exact G7 hp _
 ·refine spliced_more (h1.aV K F R q1 λu aC ao aQ a b' c d fq bw bu=>spliced_none ⟨bw.in c,?_⟩) (iM hy);cases b
  ·exact WX c ok.P fq q λu bG P=>P.from a b' d
  ·exact GX c ok.P hh fq q λu bG P=>P.from a b' d
  ·exact J7 c fq q λu bG P=>P.from a b' d
  ·exact J8 c fq q λu bG P=>P.from a b' d
theorem Kg(rm:lY n A)(lk:tB T tb prog w n X){f:Nat}{es:Es}{x:Str}{xs:List Expr}{p p':Pos}(hg:tb.YN f=true)(h:qk env.scope.names x=true)(hx:x=tb.YM f)(hp:∀y∈xs,fo y=true)(h1:kX T prog w A X env nm es xs):
  bO T prog w A X env nm (.call f es) (.Call (.Name x p) xs [] p'):=by
 intro ls σ s ρ L v aN K F R q;refine aF q λvs aj q1 q=>?_;have hex:=vH q;obtain⟨b1,b2,b3⟩:=lk.fn f hex;unfold qk at h;rw[bx]at h;subst hx;refine wpAny_Call_NameR (zt F K R (cj h.1) (b1 hg) (by simpa using h.2) ?_);refine jE (T:=T) (λh x=>r7 b2 h x) hp ?_;refine h1.aV K F R q1 λus aC ao aQ a b c d fq bw bu=>⟨bw.in c,?_⟩;exact wpAny_mono (b3 A aC ao aQ aj vs us v aN rm bw c fq q) (λu bG P=>P.from a b d) λ_ _ z=>z
theorem Q6(rm:lY n A)(lk:tB T tb prog w n X){f:Nat}{es:Es}{x:Str}{xs:List Expr}{p p':Pos}(h:qk env.scope.names x=true)(hx:x=tb.YO f)(hp:∀y∈xs,fo y=true)(h1:kX T prog w A X env nm es xs):
  bO T prog w A X env nm (.new f es) (.Call (.Name x p) xs [] p'):=by
 intro ls σ s ρ L v aN K F R q;refine aF q λvs aj q1 q=>?_;have hex:=vH q;obtain⟨C,b1,b2,b3⟩:=lk.new f hex;unfold qk at h;rw[bx]at h;subst hx;refine wpAny_Call_NameR (zt F K R (cj h.1) b1 (by simpa using h.2) ?_);refine jE (T:=T) (λh x=>r7 b2 h x) hp ?_;refine h1.aV K F R q1 λus aC ao aQ a b c d fq bw bu=>⟨bw.in c,?_⟩;exact wpAny_mono (b3 A aC ao aQ aj vs us v aN rm bw c fq q) (λu bG P=>P.from a b d) λ_ _ z=>z
end
section
variable{T:bk}{ρ:bU}{L:Lo}
theorem my.miss{x:Str}(hx:∀a,a<T.nA->T.an a≠x):∀{fs:List (Nat×PV)} {es:List DictEntry},my T ρ L fs es->es.find? (·.key.isStr x)=none
 |[],[],_=>rfl
 |(b,y)::r,e::t,h=>by
  obtain⟨⟨hb,⟨tk,hk⟩,hv⟩,h2⟩:=h;rw[List.find?_cons,hk];have:(Value.str (T.an b) tk).isStr x=false:=by show(T.an b==x)=false;simpa using hx b hb
  rw[this];exact my.miss hx h2
 |[],_::_,h=>by exact h.elim
 |(_,_)::_,[],h=>by exact h.elim
end
section
variable{T:bk}{tb:Tb}{n:Nat}{X:Cx}{env:Env}{nm:List Str}
theorem G_{o:Expr}{name:Str}{apos pos:Pos}{xs:List Expr}{s:Shared}{E:Value->Shared->Prop}{Q:Value->Shared->Prop}(hs:pj o=true)(hp:∀y∈xs,fo y=true)(hl:xs.length<29)(AY:(apos.endLine==pos.line)=true)
  (h: ~~~(PySem.eval o env) (λov aC=>∀pl,~~~(getMethod ov name pl) (λfx bG=>~~~(callWith pos fx.1 fx.2 (backTo pos (starEach xs env)) []) Q E bG) E aC) E s):
  ~~~(PySem.eval (.Call (.Attribute o name apos) xs [] pos) env) Q E s:=by
 rw[arm_eval_Call,r8 hs];refine wpAny_bind (wpAny_mono h (λov aC Hb=>?_) λ_ _ e=>e);refine wpAny_bind (wpAny_standAt ?_);have Xf:methodCallForm (xs.length+([]:List Keyword).length) (backTo pos (starEach xs env)) (backToKw pos (keywordEach [] env))=true:=by unfold methodCallForm;rw[all_plain hp];show(true&&true&&decide (xs.length+0+0<30))=true;simp;omega
 have Q7:methodCallPos true o env apos pos=pure pos:=by unfold methodCallPos;simp[AY]
 dsimp only[methodCall];rw[Xf];refine wpAny_bind (wpAny_holding (wpAny_mono (Hb _) (λfx bG h₂=>?_) λ_ _ e=>e));exact wpAny_bind (wpAny_of_eq Q7 h₂)
theorem Hc{σ:PS}{k C:Nat}(hi:gh σ (.ax k)=some C){P:Prop}(h:∀fs,σ.pm[k]?=some (.inst C fs)->P):P:=by
 refine aL hi λm q e=>?_;cases m<;>first|exact noS e|skip
 rw[<-fh e]at h;exact h _ q
theorem xX(ok:dG T w)(lk:tB T tb prog w n X){s:Shared}{ρ:bU}{L:Lo}{σ:PS}(K:hJ T ρ)(R:Rep T ρ L σ s.heap){v:PV}{u:Value}(p:cv T ρ L v u){C m f:Nat}(hi:gh σ v=some C)(hm:X.aR C m=some f)
  {pl:Sem Bool} {Q:Value×List Value->Shared->Prop} {E:Value->Shared->Prop} (h:Q (.ref (tb.fv f),[u]) s): ~~~(getMethod u (tb.mn m) pl) Q E s:=by
 obtain⟨m1,m2,m3,m4⟩:=lk.aR C m f hm;have hg:=ok.get C;simp only[plainGet,bx,fg]at hg;cases v with
 |aI _=>exact noS hi
 |ax k=>
  obtain⟨_,rfl⟩:=p;refine Hc hi λfs q=>?_;obtain⟨es,ep,I,d,v'⟩:=AN R q;refine method_fn (K.in R) I hg.1 hg.2 m1 m2 ?_ h;show(lookIn (tb.mn m) (eW es ep)).map (·.isSome)=some false;unfold lookIn;dsimp only;rw[v'.miss m4,v'.refKey];rfl
 |d x=>
  cases x<;>first|exact noS hi|skip
  replace p:=(fh hi)▸p
  have p:=p;obtain⟨a,d,ep,rfl,i,j⟩:=p;refine method_fn (K.in R) (ox:=D2 (T.cl C) d) (od:=some (eW #[] ep)) ⟨R.bB i,rfl,rfl,R.bB j⟩ hg.1 hg.2 m1 m2 ?_ h;rfl
section
variable{ρ:bU}{L:Lo}{σ aN:PS}{ov v:PV}{vs:List PV}{us:List Value}{a:Addr}{Q:Value->Shared->Prop}
theorem us1{x:PV}(p':gG T ρ L [x] us):∃u,us=[u]/\cv T ρ L x u:=by
 cases us with
 |nil=>exact p'.elim
 |cons u r=>
  cases r with
  |nil=>exact⟨u,rfl,p'.1⟩
  |cons _ _=>exact p'.2.elim
theorem Xg(R:Rep T ρ L σ s.heap)(p:cv T ρ L ov (.ref a))(p':gG T ρ L vs us)(q:hN 0 ov vs σ=some (v,aN))(h:∀u s',jZ T ρ L s v aN u s'->Q u s'): ~~~(call (.builtin "list.append") (.ref a::us)) Q lH s:=by
 cases vs with
 |nil=>exact noS q
 |cons x r=>
  cases r with
  |cons _ _=>exact noS q
  |nil=>
   refine aF q λdx bJ q3 q=>?_;refine aL q λl q4 q=>?_;refine dN q λhf q=>?_;refine aL q λhO q5 q6=>?_;revert h;exists q6;intro h;refine ex1 (us1 p') λu e=>an2 e λe p1=>?_;rw[e];refine ex1 (iH R p1 q3) λcV z=>an3 z λe1 ky hx=>?_;exact GS ky (cv.mono e1.bB .refl p) q4 hf q5 hx λfH P=>h _ _ (P.from e1 .refl (.refl s))
theorem Xh(R:Rep T ρ L σ s.heap)(p:cv T ρ L ov (.ref a))(p':gG T ρ L vs us)(q:hN 1 ov vs σ=some (v,aN))(h:∀u s',jZ T ρ L s v aN u s'->Q u s'): ~~~(call (.builtin "list.pop") (.ref a::us)) Q lH s:=by
 cases vs with
 |cons _ _=>exact noS q
 |nil=>
  cases us with
  |cons _ _=>exact p'.elim
  |nil=>
   refine aL q λl q4 q=>?_;refine aL q λdx q5 q=>?_;refine dN q λhf q=>?_;refine aL q λhO q6 q7=>?_;revert h;exists q7;intro h;exact WV R p q4 hf q5 q6 h
theorem Hd(ok:dG T w)(hu:A.units+100<cLine)(R:Rep T ρ L σ s.heap)(p:cv T ρ L ov (.ref a)){k e:D}{u:Value}(more:Option (D×Value))(hm:∀p,more=some p->VR T.P T.cl ρ p.1 p.2)(p':VR T.P T.cl ρ k u)(he:e=(more.map (·.1)).getD .none)
  (q:ai (X4 σ k e) (σ.dictOf ov)=some (v,aN)) (h:∀u s',jZ T ρ L s v aN u s'->Q u s'): ~~~(call (.builtin "dict.get") (.ref a::u::(more.map (·.2)).toList)) Q lH s:=by
 refine aL q λl q4 q=>?_;refine dN q λdk q=>?_;revert h;exists q;intro h;refine ex3 (gP R p (mB q4)) λda es nn z=>an5 z λe1 g rr hn hk=>?_;cases e1;subst he;have eP:=ok.P;rw[eP]at hm p' rr;refine Ea (T:=T) (ρ:=ρ) ⟨R.nS,by omega,g,rr,hk,dk,p',hn⟩ (by omega) more hm λv t hv=>h _ _ ?_;exact .now .refl .refl R ⟨_,_,rfl⟩ (by rw[<-eP]at hv;exact hv)
theorem Xi(ok:dG T w)(hu:A.units+100<cLine)(R:Rep T ρ L σ s.heap)(p:cv T ρ L ov (.ref a))(p':gG T ρ L vs us)(q:hN 2 ov vs σ=some (v,aN))(h:∀u s',jZ T ρ L s v aN u s'->Q u s'): ~~~(call (.builtin "dict.get") (.ref a::us)) Q lH s:=by
 cases vs with
 |nil=>exact noS q
 |cons x r=>
  cases x<;>first|(cases r<;>exact noS q)|skip
  rename_i k;cases r with
  |nil=>
   refine ex1 (us1 p') λu e=>an2 e λe p1=>?_;subst e;exact Hd ok hu R p none (λ_ z=>noS z) p1 rfl q h
  |cons y r=>
   cases r with
   |cons _ _=>cases y<;>exact noS q
   |nil=>
    cases us with
    |nil=>exact p'.elim
    |cons u us=>
     refine ex1 (us1 p'.2) λu' e=>an2 e λe p2=>?_;rw[e];cases y<;>first|exact noS q|skip
     exact Hd ok hu R p (some (_,u')) (λp z=>fh z▸p2) p'.1 rfl q h
end
theorem Ki(ok:dG T w)(rm:lY n A)(lk:tB T tb prog w n X){e:E}{m:Nat}{es:Es}{o:Expr}{name:Str}{xs:List Expr}{ap p:Pos}(hx:name=tb.mn m)(hs:pj o=true)(hp:∀y∈xs,fo y=true)(hl:xs.length<29)(AY:(ap.endLine==p.line)=true)
  (h1:bO T prog w A X env nm e o) (h2:kX T prog w A X env nm es xs):bO T prog w A X env nm (.aR e m es) (.Call (.Attribute o name ap) xs [] p):=by
 intro ls σ s ρ L v aN K F R q;subst hx;have hu:=rm.u;refine aF q λov aj q1 q=>?_;have q:R8 X m (iX X es) ls ov aj (gh aj ov)=some (v,aN):=q;cases hi:gh aj ov with
 |some C=>
  replace q:=hi▸q
  refine aL q λf hm q=>?_;refine aF q λvs aM q2 q=>?_;obtain⟨m1,m2,m3,m4⟩:=lk.aR C m f hm;have hex:=vH q;obtain⟨_,_,b3⟩:=lk.fn f hex;refine G_ hs hp hl AY (h1.aV K F R q1 λu aC ao aQ a b c d fq bw bu=>λpl=>?_);refine xX ok lk bw c fq hi hm ?_;refine jE (T:=T) (λh x=>r7 m3 h x) hp ?_;refine h2.aV bw bu c q2 λus bG aZ eM a' b' c' d' p' ip j8=>⟨ip.in c',?_⟩;exact wpAny_mono (b3 A bG aZ eM aM (ov::vs) (u::us) v aN rm ip c' ⟨cv.mono a'.bB b' fq,p'⟩ q) (λu fH P=>P.from (a.trans a') (b.trans b') (d.trans d')) λ_ _ z=>z
 |none=>
  rw[hi]at q;refine dN q λQ8 q=>?_;refine aF q λvs aM q2 q=>?_;obtain⟨bm1,bm2,bm3⟩:=lk.bm;refine G_ hs hp hl AY (h1.aV K F R q1 λu aC ao aQ a b c d fq bw bu=>λpl=>?_);have args:∀(id:String) (Q:Value->Shared->Prop),(∀us bG aZ eM,gc ao aZ->aQ.le eM->Rep T aZ eM aM bG.heap->cS aC bG->gG T aZ eM vs us->~~~(call (.builtin id) (u::us)) Q lH bG)->
    ~~~(callWith p (.builtin id) [u] (backTo p (starEach xs env)) []) Q lH aC:=λid Q h=>by
   refine jE (T:=T) (λh _=>xQ h id) hp ?_;exact h2.aV bw bu c q2 λus bG aZ eM a' b' c' d' p' ip j8=>⟨ip.in c',h us bG aZ eM a' b' c' d' p'⟩
  cases zy:aj.pA ov with
  |none=>rw[zy]at Q8;exact noB Q8
  |some x=>
   replace Q8:=zy▸Q8
   cases x<;>first|exact noB Q8|skip
   ·refine ex3 (ei c fq zy) λla vs0 k0 z=>an3 z λe g0 _=>?_;subst e;have hT:aC.TypeIs (.ref la) "list":=⟨_,g0,rfl⟩;have hd:∀a,Value.ref la= .ref a->∃o,aC.heap.get? a=some o/\o.dict=none:=λa e=>by cases e;exact⟨_,g0,rfl⟩
    refine Or.elim (Bool.or_eq_true_iff.mp (show(Nat.beq m mV||Nat.beq m E')=true from Q8)) (λhm=>?_) λhm=>?_<;>(have hm:=kh hm;subst hm)
    ·rw[bm1];refine getMethod_builtin hT PySem.F.plainAttrs_list PySem.F.slot_list_append PySem.F.type_list_append hd ?_;exact args _ _ λus bG aZ eM a' b' c' d' p'=>Xg c' (cv.mono a'.bB b' fq) p' q λu fH P=>P.from (a.trans a') (b.trans b') (d.trans d')
    ·rw[bm2];refine getMethod_builtin hT PySem.F.plainAttrs_list PySem.F.slot_list_pop PySem.F.type_list_pop hd ?_;exact args _ _ λus bG aZ eM a' b' c' d' p'=>Xh c' (cv.mono a'.bB b' fq) p' q λu fH P=>P.from (a.trans a') (b.trans b') (d.trans d')
   ·refine ex3 (gP c fq zy) λla es0 k0 z=>an5 z λe g0 _ _ _=>?_;subst e;have hT:aC.TypeIs (.ref la) "dict":=⟨_,g0,rfl⟩;have hd:∀a,Value.ref la= .ref a->∃o,aC.heap.get? a=some o/\o.dict=none:=λa e=>by cases e;exact⟨_,g0,rfl⟩
    have hm:=kh Q8;subst hm;rw[bm3];refine getMethod_builtin hT PySem.F.plainAttrs_dict PySem.F.slot_dict_get PySem.F.type_dict_get hd ?_;exact args _ _ λus bG aZ eM a' b' c' d' p'=>Xi ok hu c' (cv.mono a'.bB b' fq) p' q λu fH P=>P.from (a.trans a') (b.trans b') (d.trans d')
end
def Ec(n:Nat):Option Int->Nat
 |none=>0
 |some i=>min i.toNat n
def Kj(n:Nat):Option Int->Nat
 |none=>n
 |some i=>min i.toNat n
theorem Xj{i:Int}{n:Nat}(h:0<=i):max 0 (min (if i<0 then i+(n:Int)else i) (n:Int))=((min i.toNat n:Nat):Int):=by
 obtain⟨k,rfl⟩:=Int.eq_ofNat_of_zero_le h;rw[if_neg (Int.not_lt.mpr h)];show max 0 (min (k:Int) (n:Int))=((min k n:Nat):Int);rcases Nat.le_total k n with h|h
 ·rw[Nat.min_eq_left h,Int.min_eq_left (Int.ofNat_le.mpr h),Int.max_eq_right (sT _)]
 ·rw[Nat.min_eq_right h,Int.min_eq_right (Int.ofNat_le.mpr h),Int.max_eq_right (sT _)]
theorem vK(items:Array Value)(lo hi:Option Int)(h1:∀i,lo=some i->0<=i)(h2:∀i,hi=some i->0<=i):
  slicePick items lo hi none=((items.toList.drop (Ec items.size lo)).take (Kj items.size hi-Ec items.size lo)).toArray:=by
 have hb:sliceBounds lo hi none items.size=((Ec items.size lo:Int),(Kj items.size hi:Int),1):=by
  dsimp only[sliceBounds];have c:(1:Int)>0:=by decide
  simp only[Option.getD_none,c,if_true];congr 1
  ·cases lo with
   |none=>rfl
   |some i=>exact Xj (h1 i rfl)
  ·congr 1;cases hi with
   |none=>rfl
   |some i=>exact Xj (h2 i rfl)
 unfold slicePick;rw[hb];congr 1;dsimp only;dsimp only[sliceRange];have c:(1:Int)>0:=by decide
 simp only[c,if_true];rw[<-pick_run items (Ec items.size lo) (Kj items.size hi-Ec items.size lo)];congr 1;have e1:((if (Ec items.size lo:Int)<(Kj items.size hi:Int)then((Kj items.size hi:Int)-(Ec items.size lo:Int)+1-1)/1 else 0):Int).toNat=Kj items.size hi-Ec items.size lo:=by
  split
  ·rw[Int.ediv_one,Int.add_sub_cancel];exact Int.toNat_sub _ _
  ·rename_i h;exact(Nat.sub_eq_zero_of_le (Int.ofNat_le.mp (Int.not_lt.mp h))).symm
 rw[e1];refine List.map_congr_left λk _=>?_;rw[Int.one_mul];rfl
def pn:D->Option Int->Prop
 | .none,o=>o=none
 | .int i,o=>o=some i/\0<=i
 |_,_=>False
theorem uj{d:D}{o:Option Int}(h:pn d o):∀i,o=some i->0<=i:=by
 intro i e;cases d<;>first|exact(h:False).elim|skip
 ·have h:=h;rw[h]at e;cases e
 ·obtain⟨h1,h2⟩:=h;rw[h1]at e;cases e;exact h2
def bound(n dflt:Nat)(d:D):Option Nat:=match d with
 | .none=>some dflt
 | .int i=>if 0<=i&&small i then some (min i.toNat n)else none
 |_=>none
theorem He{n x:Nat}{d:D}(h:bound n 0 d=some x):∃o,pn d o/\x=Ec n o:=by
 cases d<;>first|change h|skip
 ·have h:some 0=some x:=h;cases h;exact⟨none,rfl,rfl⟩
 ·rename_i i;have h:(if 0<=i&&small i then some (min i.toNat n)else none)=some x:=h;split at h<;>first|change h|skip
  rename_i c;cases h;rw[bx,dK]at c;exact⟨some i,⟨rfl,c.1⟩,rfl⟩
theorem Hg{n x:Nat}{d:D}(h:bound n n d=some x):∃o,pn d o/\x=Kj n o:=by
 cases d<;>first|change h|skip
 ·have h:some n=some x:=h;cases h;exact⟨none,rfl,rfl⟩
 ·rename_i i;have h:(if 0<=i&&small i then some (min i.toNat n)else none)=some x:=h;split at h<;>first|change h|skip
  rename_i c;cases h;rw[bx,dK]at c;exact⟨some i,⟨rfl,c.1⟩,rfl⟩
theorem Ed{l ys:List D}{a b:D}(e:qV l a b=some ys):∃lo hi:Option Int,pn a lo/\pn b hi/\ys=(l.drop (Ec l.length lo)).take (Kj l.length hi-Ec l.length lo):=by
 have e:(match bound l.length 0 a,bound l.length l.length b with
  |some a,some b=>some ((l.drop a).take (b-a))
  |_,_=>none)=some ys:=e
 cases e1:bound l.length 0 a with
 |none=>rw[e1]at e;exact noS e
 |some x=>
 cases e2:bound l.length l.length b with
 |none=>rw[e1,e2]at e;exact noS e
 |some y=>
 rw[e1,e2]at e;cases e;obtain⟨lo,h1,zq1⟩:=He e1;rw[zq1];obtain⟨hi,h2,zq3⟩:=Hg e2;rw[zq3];exact⟨lo,hi,h1,h2,rfl⟩
section
variable{T:bk}{tb:Tb}{n:Nat}{X:Cx}{env:Env}{nm:List Str}
def pq(T:bk)(prog:Program)(w:World)(A:Around)(X:Cx)(env:Env)(nm:List Str)(e:E)(x:Option Expr):Prop:=∀ls σ s ρ L v aN,hJ T ρ->cL T ρ L env nm ls->Rep T ρ L σ s.heap->eval X e ls σ=some (v,aN)->
 ~~~(evalPart x env) (λu s'=>jZ T ρ L s v aN u s') lH s
theorem uk{e:E}{x:Expr}(h:bO T prog w A X env nm e x):pq T prog w A X env nm e (some x):=by intro ls σ s ρ L v aN K F R q;exact h ls σ s ρ L v aN K F R q
theorem um{e:E}(h:SA e=true):pq T prog w A X env nm e none:=by intro ls σ s ρ L v aN K F R q;have e:=Ml h;subst e;exists q;rw[evalPart_none];exact wpAny_pure (.eV R (.refl s) kU)
theorem pq.aV{e:E}{x:Option Expr}(h:pq T prog w A X env nm e x){ls:Ls}{σ aj:PS}{s:Shared}{ρ:bU}{L:Lo}{v:PV}(K:hJ T ρ)(F:cL T ρ L env nm ls)(R:Rep T ρ L σ s.heap)(q:eval X e ls σ=some (v,aj)){Q:Value->Shared->Prop}
  (k:∀u aC ao aQ,gc ρ ao->L.le aQ->Rep T ao aQ aj aC.heap->cS s aC->cv T ao aQ v u->hJ T ao->cL T ao aQ env nm ls->Q u aC): ~~~(evalPart x env) Q lH s:=by
 refine wpAny_mono (h ls σ s ρ L v aj K F R q) (λu aC p=>?_) λ_ _ z=>z;obtain⟨ao,aQ,a,b,c,d,z⟩:=p;exact k u aC ao aQ a b c d z (K.mono a) (F.mono a b)
end
section
variable{T:bk}{tb:Tb}{n:Nat}{X:Cx}{env:Env}{nm:List Str}
theorem uq{ρ:bU}{L:Lo}{d:D}{o:Option Int}{u:Value}(h:pn d o)(p:cv T ρ L (.d d) u):IsPart u o:=by
 have p:VR T.P T.cl ρ d u:=p;cases d<;>first|exact(h:False).elim|skip
 ·have h:=h;rw[h];subst p;exact .none
 ·obtain⟨zq16,_⟩:=h;rw[zq16];obtain⟨t,zq18⟩:=iJ p;rw[zq18];exact .int _ t
theorem Q9{e lo hi:E}{o:Expr}{l h:Option Expr}{p p':Pos}(h1:bO T prog w A X env nm e o)(h2:pq T prog w A X env nm lo l)(h3:pq T prog w A X env nm hi h):
  bO T prog w A X env nm (.EH e lo hi) (.Subscript o (.Slice l h none p) p'):=by
 intro ls σ s ρ L v aN K F R q;refine aF q λkx aj q1 qa=>?_;refine aF qa λzx aM q2 qb=>?_;refine aF qb λv₃ bJ q3 qc=>?_;clear q qa qb
 rename ((_:Option (PV×PS))=_)=>q
 refine Subscript_ (h1.aV K F R q1 λu aC ao aQ a b c d fq bw bu=>?_);refine wpAny_Slice (h2.aV bw bu c q2 λul bG aZ eM a' b' c' d' Hh ip j8=>h3.aV ip j8 c' q3 λuh fH cV lX AZ A0 Q_ Mm Kk Kl qo=>?_);rw[evalPart_none];refine wpAny_pure ?_;have R3:Rep T cV lX bJ (fH.heap.push {cls:= .type "slice",data:= .fields #[ul,uh,.none]}):=Q_.push _;have sl:(fH.heap.push {cls:= .type "slice",data:= .fields #[ul,uh,.none]}).IsSliceOf fH.heap.objs.size ul uh .none:=Heap.IsSliceOf.new ..;have Mn:=cv.mono (a'.bB.trans AZ.bB) (b'.trans A0) fq;have Mo:=cv.mono AZ.bB A0 Hh;obtain⟨ops,hs⟩:=WU (.Slice l h none p) u (.ref fH.heap.objs.size);cases zx<;>first|change q|skip
 rename_i da;cases v₃<;>first|change q|skip
 rename_i db;refine aL q λc zy q=>?_;cases c<;>first|change q|skip
 ·rename_i tl;obtain⟨i,rfl⟩:∃i,da= .int i:=by cases da<;>first|exact⟨_,rfl⟩|change q
  obtain rfl:db= .none:=by cases db<;>first|rfl|change q
  refine dN q λhc q=>?_;exists q;rw[bx,bx,dK,dK]at hc;obtain⟨ta,vs,rfl,g,rr⟩:=nR (h:=(fH.heap.push {cls:= .type "slice",data:= .fields #[ul,uh,.none]})) R3 Mn zy;obtain⟨t,rfl⟩:=bV Mo;have hn:uh= .none:=by have Kk:=Kk;exact Kk
  subst hn;have h0:0<=i:=Int.le_trans ∅ hc.1.1;have hi0:=wg h0;refine tail_any (T:="tuple") ⟨_,g,rfl⟩ slot_tuple_getitem.lookup ?_ hs;refine getItem_tuple_from (a:=i.toNat) (rS g) (by rw[hi0];exact sl) ((Int.le_toNat h0).mpr hc.1.1) (by rw[rr.size];exact Int.toNat_le.mpr hc.1.2) ?_ (by rw[rr.size];have:=dh hc.2;have:=dH;lia);obtain⟨aJ,x,y,z⟩:=nT (l:=tl.drop i.toNat) (vs:=(vs.toList.drop i.toNat).toArray) (h':=(fH.heap.push {cls:= .type "slice",data:= .fields #[.int i t,.none,.none]}).push (lW (vs.toList.drop i.toNat).toArray)) R3 R3.new
   (λb o _ _ e=>h_ _ e) (jK _ rfl) (dB.drop _ rr)
  exact .now ((a.trans (a'.trans AZ)).trans x) (b.trans (b'.trans A0)) y ((d.trans (d'.trans Mm)).trans ⟨_,_,rfl⟩) z
 ·rename_i tl;refine aL q λys hy q=>?_;refine dN q λhf q=>?_;obtain⟨ta,vs,k,rfl,g,rr⟩:=ei (h:=(fH.heap.push {cls:= .type "slice",data:= .fields #[ul,uh,.none]})) R3 Mn zy;obtain⟨lo',YS,e1,e2,e3⟩:=Ed hy;subst e3;refine tail_any (T:="list") ⟨_,g,rfl⟩ slot_list_getitem.lookup ?_ hs;refine wpAny_getItem_list_slice (gF g) sl (uq e1 Mo) (uq e2 Kk) .none ∅ ?_ (by rw[rr.size];have:=dh hf;have:=dH;lia);rw[vK vs lo' YS (uj e1) (uj e2),rr.size];obtain⟨aJ,L',x,x',y,z⟩:=jC (h':=(fH.heap.push {cls:= .type "slice",data:= .fields #[ul,uh,.none]}).push (gW ((vs.toList.drop (Ec tl.length lo')).take (Kj tl.length YS-Ec tl.length lo')).toArray 0)) (k:=0) R3 R3.new
   (λb o _ _ e=>h_ _ e) (jK _ rfl) (dB.take _ (dB.drop _ rr)) q
  exact .now ((a.trans (a'.trans AZ)).trans x) ((b.trans (b'.trans A0)).trans x') y ((d.trans (d'.trans Mm)).trans ⟨_,_,rfl⟩) z
end
section
variable{T:bk}{tb:Tb}{n:Nat}{X:Cx}{env:Env}{nm:List Str}
theorem Hi(lk:tB T tb prog w n X){ρ:bU}{L:Lo}{σ:PS}{h:Heap}(K:hJ T ρ)(R:Rep T ρ L σ h){a:Addr}(f:h.get? a=none):a≠sysModules:=by obtain⟨o,e⟩:=yx.mp lk.sys;exact zj ⟨o,R.bB (K _ _ e)⟩ f
theorem Km(lk:tB T tb prog w n X){p:Pos}:bO T prog w A X env nm (.sP .nil) (.Dict [] [] p):=by intro ls σ s ρ L v aN K F R q;have q:PS.newD σ []=some (v,aN):=q;refine wpAny_Dict_empty ?_;obtain⟨aJ,L',x,x',y,z⟩:=xJ (h':=s.heap.push (eW #[] 0)) R R.new (λb o _ _ e=>h_ _ e) (jK _ rfl) (l:=[]) trivial kj.nil (Hi lk K R (pb _)) q;exact .now x x' y ⟨_,_,rfl⟩ z
theorem Kn(ok:dG T w)(lk:tB T tb prog w n X)(hu:A.units+100<cLine){a b:E}{k y:Expr}{p:Pos}(h1:bO T prog w A X env nm a k)(h2:bO T prog w A X env nm b y):
  bO T prog w A X env nm (.sP (.cons a (.cons b .nil))) (.Dict [some k] [y] p):=by
 intro ls σ s ρ L v aN K F R q;refine aF q λvs bJ q0 q=>?_;refine aF q0 λkx aj q1 q0=>?_;refine aF q0 λus aM q02 q0=>?_;cases q0;refine aF q02 λzx σ₂' q2 q02=>?_;cases q02;refine aF q λys bJ q3 q=>?_;refine aL q λl ql q=>?_;have Xk:=Hi lk K R (pb s.heap);have hnew:=R.new;obtain⟨R0,Hj⟩:=R.zg (eW #[] 0);have K0:=K.mono Hj;have F0:=F.mono Hj .refl (L':=L);refine wpAny_Dict_any rfl rfl (by simp) (sW _) ?_;show wpAny _ _ (evalPairs [(PySem.eval k env,do let x<-PySem.eval y env;standAt p;pure x)]) _ _ _;refine wpAny_bind ?_;refine h1.aV (s:={s with heap:=s.heap.push {cls:= .type "dict",data:= .dict #[]}}) K0 F0 R0 q1 λu aC ao aQ a1 b1 c1 d1 fq bw bu=>?_;refine wpAny_bind (wpAny_holding (wpAny_bind ?_));refine h2.aV bw bu c1 q2 λu' bG aZ eM a2 b2 c2 d2 Hh ip j8=>?_;refine wpAny_bind (wpAny_standAt (wpAny_pure ?_));refine wpAny_bind (wpAny_holding (wpAny_pure (wpAny_pure ?_)));obtain⟨cV,a3,ky,r3⟩:=kR c2 (xs:=[kx,zx]) (vs:=[u,u']) ⟨cv.mono a2.bB b2 fq,Hh,trivial⟩ q3;cases ys with
 |nil=>exact r3.elim
 |cons dk ys=>
  cases ys with
  |nil=>exact absurd r3.2 (by exact id)
  |cons dv ys=>
   cases ys with
   |cons _ _=>exact absurd r3.length (by simp)
   |nil=>
    obtain⟨vk,r3⟩:=r3;obtain⟨vv,_⟩:=r3;refine dN ql λve ql=>?_;cases ql;have fb:=a3.aY _ _ (a2.aY _ _ (a1.aY _ _ aO));have g:=ky.aY fb;have D0:jm dk []=true:=by unfold jm;rw[ve];rfl
    show wpAny _ _ (forIn [(u,u')] PUnit.unit _) _ _ _;rw[List.forIn_cons];refine wpAny_bind (wpAny_bind ?_);refine Ask.set (cl:=T.cl) (ρ:=cV) (l:=[]) (k:=dk) (x:=dv) ⟨ky.nS,by omega,g,trivial,kj.nil,D0,ok.P▸vk,Xk⟩ (ok.P▸vv) rfl λh' t vD n' g' sb r'=>?_;refine wpAny_pure (wpAny_pure ?_);have R4:Rep T (up cV s.heap.objs.size .free) eM bJ bG.heap:=ky.takes (.inr ⟨_,fb⟩) (λ_ _ _ _ e=>e) trivial;have ne:∀c o,(ρ c= .bB o\/ρ c= .aY o)->c≠s.heap.objs.size:=λc o hc e=>by rw[e,hnew]at hc;rcases hc with hc|hc<;>cases hc
    have le4:gc ρ (up cV s.heap.objs.size .free):=⟨λc o e=>by rw[a8 (ne c o (.inl e))];exact(((Hj.trans a1).trans a2).trans a3).bB c o e,λc o e=>by rw[a8 (ne c o (.inr e))];exact(((Hj.trans a1).trans a2).trans a3).aY c o e⟩;have vk4:gb T.P T.cl (up cV s.heap.objs.size .free) (dput dk dv []) vD.toList:=gb.mono (dw λo=>by rw[fb];intro z;cases z) (ok.P▸r');obtain⟨aJ,L',x,x',yy,z⟩:=xJ (h':=h') R4 aO (λc o hc hf e=>sb.extBut c o hc e) g' vk4 (kj.nil.put D0) Xk q;exact .now (le4.trans x) ((b1.trans b2).trans x') yy (((cS.mk s _ s.toks).trans (d1.trans d2)).trans ⟨_,_,rfl⟩) z
end
section
variable{T:bk}{ρ:bU}{L:Lo}{σ:PS}{h:Heap}
theorem Rep.A6(R:Rep T ρ L σ h){n:Nat}{t₀:TO}{o:Obj}(e:σ.tm[n]?=some t₀)(ow:ρ (L.t n)= .own (.t n))(ho:h.get? (L.t n)=some o):
  Rep T (up ρ (L.t n) (.aY o)) L ⟨σ.pm,σ.tm.set n .dead⟩ h/\gc ρ (up ρ (L.t n) (.aY o)):=by
 have hn:=br e;have im:bg ρ (up ρ (L.t n) (.aY o)):=dw λo'=>by rw[ow];intro z;cases z
 refine⟨⟨R.np,by rw[R.nt,gq],λa=>?_,λk m e=>(R.ax k m e).keep im Lo.le.refl (by rw[R.np];exact br e) ?_,λk m e=>?_⟩,im,λa o' e=>?_⟩
 ·by_cases q:a=L.t n
  ·subst q;rw[aO];exact ho
  ·rw[a8 q];exact R.role a
 ·intro a g hg q;have gX:a≠L.t n:=λz=>by rw[z,ow]at q;cases q;rcases hg with hg|hg<;>cases hg
  exact⟨by rw[a8 gX];exact q,λo ho=>ho⟩
 ·by_cases hk:k=n
  ·subst hk;rw[pQ hn]at e;cases e;trivial
  ·replace e:=(bq (gA hk))▸e
   refine(R.aI k m e).keep im Lo.le.refl (by rw[R.nt];exact br e) λa q=>?_;have gX:a≠L.t n:=λz=>by rw[z,ow]at q;cases q;exact hk rfl
   exact⟨by rw[a8 gX];exact q,λo ho=>ho⟩
 ·have gX:a≠L.t n:=λz=>by rw[z,ow]at e;cases e
  rw[a8 gX];exact e
theorem Rep.Ee(R:Rep T ρ L σ h){n:Nat}{t:TO}{o:Obj}(fr:ρ (L.t n)= .aY o)(c:∀aJ,bg ρ aJ->aJ (L.t n)= .own (.t n)->o_ T aJ L h n t):
  Rep T (up ρ (L.t n) (.own (.t n))) L ⟨σ.pm,σ.tm.set n t⟩ h/\bg ρ (up ρ (L.t n) (.own (.t n)))/\∀a o',a≠L.t n->ρ a= .aY o'->up ρ (L.t n) (.own (.t n)) a= .aY o':=by
 have im:bg ρ (up ρ (L.t n) (.own (.t n))):=dw λo'=>by rw[fr];intro z;cases z
 refine⟨⟨R.np,by rw[R.nt,gq],λa=>?_,λk m e=>(R.ax k m e).keep im Lo.le.refl (by rw[R.np];exact br e) ?_,λk m e=>?_⟩,im,λa o' ha e=>by rw[a8 ha];exact e⟩
 ·by_cases q:a=L.t n
  ·subst q;rw[aO];exact⟨o,R.aY fr⟩
  ·rw[a8 q];exact R.role a
 ·intro a g hg q;have gX:a≠L.t n:=λz=>by rw[z,fr]at q;cases q
  exact⟨by rw[a8 gX];exact q,λo ho=>ho⟩
 ·by_cases hk:k=n
  ·subst hk;have hn:=br e;rw[gq]at hn;rw[pQ hn]at e;cases e;exact c _ im aO
  ·replace e:=(bq (gA hk))▸e
   refine(R.aI k m e).keep im Lo.le.refl (by rw[R.nt];exact br e) λa q=>?_;have gX:a≠L.t n:=λz=>by rw[z,fr]at q;cases q
   exact⟨by rw[a8 gX];exact q,λo ho=>ho⟩
theorem Rep.Ko(R:Rep T ρ L σ h){n:Nat}{l:List D}{o:Obj}(e:σ.pm[n]?=some (.list l))(ow:ρ (L.p n)= .own (.p n))(ho:h.get? (L.p n)=some o):
  Rep T (up ρ (L.p n) (.aY o)) L ⟨σ.pm.set n .dead,σ.tm⟩ h/\gc ρ (up ρ (L.p n) (.aY o)):=by
 have hn:=br e;have im:bg ρ (up ρ (L.p n) (.aY o)):=dw λo'=>by rw[ow];intro z;cases z
 refine⟨⟨by rw[R.np,gq],R.nt,λa=>?_,λk m e=>?_,λk m e=>(R.aI k m e).keep im Lo.le.refl (by rw[R.nt];exact br e) ?_⟩,im,λa o' e=>?_⟩
 ·by_cases q:a=L.p n
  ·subst q;rw[aO];exact ho
  ·rw[a8 q];exact R.role a
 ·by_cases hk:k=n
  ·subst hk;rw[pQ hn]at e;cases e;trivial
  ·rw[bq (gA hk)]at e;refine(R.ax k m e).keep im Lo.le.refl (by rw[R.np];exact br e) λa g hg q=>?_;have gX:a≠L.p n:=λz=>by rw[z,ow]at q;cases q;rcases hg with hg|hg<;>cases hg;exact hk rfl
   exact⟨by rw[a8 gX];exact q,λo ho=>ho⟩
 ·intro a q;have gX:a≠L.p n:=λz=>by rw[z,ow]at q;cases q
  exact⟨by rw[a8 gX];exact q,λo ho=>ho⟩
 ·have gX:a≠L.p n:=λz=>by rw[z,ow]at e;cases e
  rw[a8 gX];exact e
theorem Rep.Ef(R:Rep T ρ L σ h){n:Nat}{t:MO}{o:Obj}(fr:ρ (L.p n)= .aY o)(c:∀aJ,bg ρ aJ->aJ (L.p n)= .own (.p n)->o9 T aJ L h n t):
  Rep T (up ρ (L.p n) (.own (.p n))) L ⟨σ.pm.set n t,σ.tm⟩ h/\bg ρ (up ρ (L.p n) (.own (.p n)))/\∀a o',a≠L.p n->ρ a= .aY o'->up ρ (L.p n) (.own (.p n)) a= .aY o':=by
 have im:bg ρ (up ρ (L.p n) (.own (.p n))):=dw λo'=>by rw[fr];intro z;cases z
 refine⟨⟨by rw[R.np,gq],R.nt,λa=>?_,λk m e=>?_,λk m e=>(R.aI k m e).keep im Lo.le.refl (by rw[R.nt];exact br e) ?_⟩,im,λa o' ha e=>by rw[a8 ha];exact e⟩
 ·by_cases q:a=L.p n
  ·subst q;rw[aO];exact⟨o,R.aY fr⟩
  ·rw[a8 q];exact R.role a
 ·by_cases hk:k=n
  ·subst hk;have hn:=br e;rw[gq]at hn;rw[pQ hn]at e;cases e;exact c _ im aO
  ·rw[bq (gA hk)]at e;refine(R.ax k m e).keep im Lo.le.refl (by rw[R.np];exact br e) λa g hg q=>?_;have gX:a≠L.p n:=λz=>by rw[z,fr]at q;cases q
   exact⟨by rw[a8 gX];exact q,λo ho=>ho⟩
 ·intro a q;have gX:a≠L.p n:=λz=>by rw[z,fr]at q;cases q
  exact⟨by rw[a8 gX];exact q,λo ho=>ho⟩
end
structure Walk (T:bk) (prog:Program) (w:World) (Eg ρ:bU) (items:List D) (I:Addr) (h:Heap):Prop where
 ex:∃c o,(∀o,Eg c≠.aY o)/\ρ I= .aY o/\(c=I\/∃oc,ρ c= .bB oc\/ρ c= .aY oc)/\∀A:Around,A.handled=none->∃fp,(∀b∈fp,b=I\/b=c)/\Iter prog w A T.P T.cl ρ items I fp h
section
variable{T:bk}{ρ:bU}{L:Lo}{σ aN:PS}
def gp(T:bk)(ρ:bU)(lk:Lock)(L:Lo):Prop:=match lk with
 | .none=>True
 | .aI n t=>∃o,ρ (L.t n)= .aY o/\∀h aJ L',bg ρ aJ->L.le L'->h.get? (L'.t n)=some o->aJ (L'.t n)= .own (.t n)->o_ T aJ L' h n t
 | .ax n m=>∃o,ρ (L.p n)= .aY o/\∀h aJ L',bg ρ aJ->L.le L'->h.get? (L'.p n)=some o->aJ (L'.p n)= .own (.p n)->o9 T aJ L' h n m
theorem Eh{ρ aJ:bU}{items:List D}{I:Addr}{fp:List Addr}{h:Heap}{P:Params}{cl:Nat->Addr}(k:bg ρ aJ)(x:Iter prog w A P cl ρ items I fp h):Iter prog w A P cl aJ items I fp h:=by obtain⟨St,W,st,ex⟩:=x.ex;exact⟨St,gH W λi v _ z=>z.imp λx z=>⟨z.1,VR.mono k z.2⟩,st,ex⟩
def OpenK(T:bk)(prog:Program)(w:World)(ρ:bU)(L:Lo)(s:Shared)(Q:Value->Shared->Prop)(items:List D)(aN:PS)(lk:Lock):Prop:=
 ∀I aC ao,gc ρ ao->Rep T ao L aN aC.heap->cS s aC->ρ I= .free->Walk T prog w ρ ao items I aC.heap->gp T ao lk L->Q (.ref I) aC
theorem gp.mono{ρ aJ:bU}{lk:Lock}(r:gc ρ aJ)(cl:gp T ρ lk L):gp T aJ lk L:=by
 cases lk with
 |none=>trivial
 |aI n t=>exact ex1 cl λot z=>⟨ot,r.aY _ _ z.1,λh tC L' k l=>z.2 h tC L' (r.bB.trans k) l⟩
 |ax n m=>exact ex1 cl λot z=>⟨ot,r.aY _ _ z.1,λh tC L' k l=>z.2 h tC L' (r.bB.trans k) l⟩
section
variable{items:List D}{lk:Lock}{Q:Value->Shared->Prop}{c:Addr}{aJ:bU}
theorem nV(R:Rep T ρ L σ s.heap)(h:OpenK T prog w ρ L s Q items aN lk)(nf:∀o,ρ c≠.aY o)(le:gc ρ aJ)(R':Rep T aJ L aN s.heap)(cl:gp T aJ lk L)(hc:∃oc,aJ c= .bB oc\/aJ c= .aY oc){o:Obj}(ho:o.isFreed=false)
  (hI:∀A',A'.handled=none->∃fp,(∀b∈fp,b=s.heap.objs.size\/b=c)/\Iter prog w A' T.P T.cl ρ items s.heap.objs.size fp (s.heap.push o)):Q (.ref s.heap.objs.size) {s with heap:=s.heap.push o}:=by
 have fr:=R'.new;refine an2 (R'.zg o ho) λR1 r=>?_;refine h s.heap.objs.size _ (up aJ s.heap.objs.size (.aY o)) (le.trans r) R1 ⟨_,_,rfl⟩ R.new ⟨c,o,nf,aO,.inr ?_,λA' hA=>?_⟩ (cl.mono r)
 ·refine ex1 hc λoc hc=>⟨oc,?_⟩;have:c≠s.heap.objs.size:=λz=>by rw[z,fr]at hc;rcases hc with hc|hc<;>cases hc
  rw[a8 this];exact hc
 ·exact ex1 (hI A' hA) λfp z=>⟨fp,z.1,Eh (le.trans r).bB z.2⟩
theorem zA(hP:T.P=w.params)(hh:A.handled=none)(R:Rep T ρ L σ s.heap)(h:OpenK T prog w ρ L s Q items aN lk)(nf:∀o,ρ c≠.aY o)(le:gc ρ aJ)(R':Rep T aJ L aN s.heap)(cl:gp T aJ lk L)(hc:∃oc,aJ c= .bB oc\/aJ c= .aY oc)
  {vs:Array Value} {k:Nat} (g:s.heap.get? c=some (gW vs k)) (r:dB T.P T.cl ρ items vs.toList): ~~~(pyIter (.ref c)) Q lH s:=
 D7 hh g (hP▸r) λ_ ho hI=>nV R h nf le R' cl hc ho λA' hA=>⟨_,λb hb=>by simpa using hb,hP▸hI A' hA⟩
theorem Hk(hP:T.P=w.params)(hh:A.handled=none)(R:Rep T ρ L σ s.heap){l:List (D×D)}(h:OpenK T prog w ρ L s Q (l.map (·.1)) aN lk)(nf:∀o,ρ c≠.aY o)(le:gc ρ aJ)(R':Rep T aJ L aN s.heap)(cl:gp T aJ lk L)(hc:∃oc,aJ c= .bB oc\/aJ c= .aY oc)
  {es:Array DictEntry} {k:Nat} (g:s.heap.get? c=some (eW es k)) (r:gb T.P T.cl ρ l es.toList) (ok:kj l) (f:jn l=true) (ns:c≠sysModules): ~~~(pyIter (.ref c)) Q lH s:=
 ud hh g (hP▸r) ok f ns λ_ ho hI=>nV R h nf le R' cl hc ho λA' hA=>⟨_,λb hb=>by simpa using hb,hP▸hI A' hA⟩
theorem vL{a:Addr}{o:Obj}(i:ρ a= .bB o):∀o,ρ a≠.aY o:=λo z=>by rw[i]at z;cases z
theorem zB{a:Addr}{g:Tag}(i:ρ a= .own g):∀o,ρ a≠.aY o:=λo z=>by rw[i]at z;cases z
theorem Q'(hP:T.P=w.params)(hh:A.handled=none)(K:hJ T ρ)(R:Rep T ρ L σ s.heap){v:PV}{u:Value}(p:cv T ρ L v u)(e:dZ σ v=some (items,aN,lk))(h:OpenK T prog w ρ L s Q items aN lk): ~~~(pyIter u) Q lH s:=by
 clear K;cases v with
 |d x=>
  have p:=p;cases x<;>first|exact noS e|skip
  ·revert h;exists e;intro h;refine ex2 p λa vs z=>an3 z λe i r=>?_;rw[e];exact iter_tuple hh (R.bB i) (hP▸r) λo ho hI=>nV R h (vL i) .refl R trivial ⟨_,.inl i⟩ ho λA' hA=>⟨_,λb hb=>by simpa using hb,hP▸hI A' hA⟩
  ·revert h;exists e;intro h;refine ex3 p λa vs k z=>an3 z λe i r=>?_;rw[e];exact zA hP hh R h (vL i) .refl R trivial ⟨_,.inl i⟩ (R.bB i) r
  ·refine dN e λf e=>?_;revert h;exists e;intro h;refine ex3 p λa es k z=>an5 z λe i r ns ok=>?_;rw[e];exact Hk hP hh R h (vL i) .refl R trivial ⟨_,.inl i⟩ (R.bB i) r ok f ns
  ·refine dN e λhc e=>?_;revert h;exists e;intro h;rw[bx,dK,dK]at hc;refine ex4 p λa t x y z=>an2 z λe i=>?_;rw[e];exact zl (cl:=T.cl) (ρ:=ρ) hh (R.bB i) hc.1 hc.2 λo ho hI=>nV R h (vL i) .refl R trivial ⟨_,.inl i⟩ ho λA' hA=>⟨_,λb hb=> .inl (by simpa using hb),hP▸hI A' hA⟩
 |aI n=>
  refine an2 p λp1 e=>?_;subst e;refine aL e λy q e=>?_;clear p;have Rn:=R.aI n _ q;cases y<;>first|exact noS e|skip
  ·revert h;exists e;intro h;refine an2 Rn λow z=>ex2 z λvs k z=>an2 z λg r=>?_;refine an2 (R.A6 q ow g) λR' le=>?_;exact zA hP hh R h (zB ow) le R' ⟨_,aO,λh tC L' kk ll gg oo=>⟨oo,vs,k,gg,dB.mono (le.bB.trans kk) r⟩⟩ ⟨_,.inr aO⟩ g r
  ·refine dN e λf e=>?_;revert h;exists e;intro h;refine an3 Rn λow x z=>an2 x λns ok=>ex2 z λes k z=>an2 z λg r=>?_;refine an2 (R.A6 q ow g) λR' le=>?_;exact Hk hP hh R h (zB ow) le R' ⟨_,aO,λh tC L' kk ll gg oo=>⟨oo,⟨by rw[ll.t n p1];exact ns,ok⟩,es,k,gg,gb.mono (le.bB.trans kk) r⟩⟩ ⟨_,.inr aO⟩ g r ok f ns
 |ax n=>
  refine an2 p λp1 e=>?_;subst e;refine aL e λy q e=>?_;clear p;have Rn:=R.ax n _ q;cases y<;>first|exact noS e|skip
  revert h;exists e;intro h;refine an2 Rn λow z=>ex2 z λvs k z=>an2 z λg r=>?_;refine an2 (R.Ko q ow g) λR' le=>?_;exact zA hP hh R h (zB ow) le R' ⟨_,aO,λh tC L' kk ll gg oo=>⟨oo,vs,k,gg,dB.mono (le.bB.trans kk) r⟩⟩ ⟨_,.inr aO⟩ g r
end
end
structure At (T:bk) (prog:Program) (w:World) (A:Around) (ρ:bU) (items:List D) (I c:Addr) (i:Nat) (h:Heap):Prop where
 it:∃o,ρ I= .aY o
 con:c=I\/∃oc,ρ c= .bB oc\/ρ c= .aY oc
 ex:∃(fp:List Addr) (St:Nat->Heap->Prop),(∀b∈fp,b=I\/b=c)/\Walks prog w A I fp [I] items.length (λi v=>∃x,items[i]?=some x/\VR T.P T.cl ρ x v) St/\St i h/\∀i h,St i h->∃o,h.get? I=some o/\GV o.cls=true
section
variable{T:bk}{ρ aJ:bU}{L:Lo}{σ:PS}{items:List D}{I:Addr}
theorem Walk.at0{Eg:bU}(W:Walk T prog w Eg ρ items I s.heap)(hh:A.handled=none):∃c,(∀o,Eg c≠.aY o)/\At T prog w A ρ items I c 0 s.heap:=by obtain⟨c,o,nf,h1,h2,h3⟩:=W.ex;obtain⟨fp,h4,h5⟩:=h3 A hh;obtain⟨St,a,b,d⟩:=h5.ex;exact⟨c,nf,⟨o,h1⟩,h2,fp,St,h4,a,b,d⟩
theorem At.keep{c:Addr}{i:Nat}{h h':Heap}(W:At T prog w A ρ items I c i h)(R:Rep T ρ L σ h){L':Lo}{aN:PS}(R':Rep T aJ L' aN h')(im:bg ρ aJ)(fI:∀o,ρ I= .aY o->aJ I= .aY o)(fc:∀o,ρ c= .aY o->aJ c= .aY o):At T prog w A aJ items I c i h':=by
 obtain⟨⟨o,h1⟩,h2,fp,St,h4,a,b,d⟩:=W;refine⟨⟨o,fI o h1⟩,h2.imp id λz=>z.imp λoc z=>z.imp (im _ _) (fc oc),fp,St,h4,gH a λi v _ z=>z.imp λx z=>⟨z.1,VR.mono im z.2⟩,a.frame _ _ _ b λz hz oz e=>?_,d⟩;have same:∀(z:Addr) (oz oo:Obj),h.get? z=some oz->h.get? z=some oo->h'.get? z=some oo->h'.get? z=some oz:=λz oz oo e1 e2 e3=>by rw[e1]at e2;cases e2;exact e3
 rcases h4 z hz with rfl|rfl
 ·exact same _ _ _ e (R.aY h1) (R'.aY (fI o h1))
 ·rcases h2 with rfl|⟨oc,h2|h2⟩
  ·exact same _ _ _ e (R.aY h1) (R'.aY (fI o h1))
  ·exact same _ _ _ e (R.bB h2) (R'.bB (im _ _ h2))
  ·exact same _ _ _ e (R.aY h2) (R'.aY (fc oc h2))
theorem Ra{c:Addr}{i:Nat}(W:At T prog w A ρ items I c i s.heap)(R:Rep T ρ L σ s.heap){x:D}(hx:items[i]?=some x){Q:Option Value->Shared->Prop}{E:Value->Shared->Prop}
  (h:∀v aC ao,bg ρ ao->(∀a o,a≠I->ρ a= .aY o->ao a= .aY o)->Rep T ao L σ aC.heap->cS s aC->VR T.P T.cl ao x v->At T prog w A ao items I c (i+1) aC.heap->Q (some v) aC): ~~~(pyNext (.ref I)) Q E s:=by
 obtain⟨⟨o,h1⟩,h2,fp,St,h4,a,b,d⟩:=W;have hi:=(gf.mp hx).1;refine a.item i s Q E hi b λv h' tk ⟨x',e,r⟩ st k=>?_;rw[hx]at e;cases e;obtain⟨o',g',_⟩:=d _ _ st;have im:bg ρ (up ρ I (.aY o')):=dw λq=>by rw[h1];intro z;cases z
 have R':Rep T (up ρ I (.aY o')) L σ h':=R.takes (.inr ⟨o,h1⟩) (λz oz hz _ e=>k z oz (by simpa using hz) e) g';refine h v _ _ im (λz oz hz e=>by rw[a8 hz];exact e) R' ⟨_,_,rfl⟩ (VR.mono im r) ⟨⟨o',aO⟩,?_,fp,St,h4,gH a λi v _ z=>z.imp λx z=>⟨z.1,VR.mono im z.2⟩,st,d⟩;rcases h2 with rfl|⟨oc,z⟩
 ·exact .inl rfl
 ·by_cases hc:c=I
  ·exact .inl hc
  ·exact .inr ⟨oc,z.imp (λe=>by rw[a8 hc];exact e) (λe=>by rw[a8 hc];exact e)⟩
theorem Rb{c:Addr}{i:Nat}(W:At T prog w A ρ items I c i s.heap)(R:Rep T ρ L σ s.heap)(hi:i=items.length){Q:Option Value->Shared->Prop}{E:Value->Shared->Prop}
  (h:∀aC ao,bg ρ ao->(∀a o,a≠I->ρ a= .aY o->ao a= .aY o)->Rep T ao L σ aC.heap->cS s aC->Q none aC): ~~~(pyNext (.ref I)) Q E s:=by
 obtain⟨⟨o,h1⟩,h2,fp,St,h4,a,b,d⟩:=W;subst hi;refine a.done s Q E b λh' tk k=>?_;have im:bg ρ (up ρ I .free):=dw λq=>by rw[h1];intro z;cases z
 have R':Rep T (up ρ I .free) L σ h':=R.takes (.inr ⟨o,h1⟩) (λz oz hz _ e=>k z oz (by simpa using hz) e) trivial;exact h _ _ im (λz oz hz e=>by rw[a8 hz];exact e) R' ⟨_,_,rfl⟩
theorem Kp{lk:Lock}(C:gp T ρ lk L)(R:Rep T ρ L σ s.heap):∃ao,bg ρ ao/\Rep T ao L (itClose σ lk) s.heap/\
  ∀a o,ρ a= .aY o->(match lk with| .none=>True| .aI n _=>a≠L.t n| .ax n _=>a≠L.p n)->ao a= .aY o:=by
 cases lk with
 |none=>exact⟨ρ,.refl,R,λ_ _ e _=>e⟩
 |aI n t=>
  obtain⟨o,c1,c2⟩:=C;obtain⟨R',im,fr⟩:=R.Ee c1 λaJ k ow=>c2 _ aJ L k .refl (R.aY c1) ow;exact⟨_,im,R',λa o e z=>fr a o z e⟩
 |ax n m=>
  obtain⟨o,c1,c2⟩:=C;obtain⟨R',im,fr⟩:=R.Ef c1 λaJ k ow=>c2 _ aJ L k .refl (R.aY c1) ow;exact⟨_,im,R',λa o e z=>fr a o z e⟩
end
def iO(env:Env):mD->List (Str×Addr)->List (Str×Addr)
 |[],acc=>acc
 |(n,k)::r,acc=>if k== .free then iO env r ((n,(env.cells.lookup n).getD 0)::acc)else iO env r acc
theorem Ei(env:Env)(ns:mD):∀(acc:List (Str×Addr)),(∀p∈ns,p.2= .free->(env.cells.lookup p.1).isSome=true)->
  (forIn ns acc λ(x:Str×NameKind) (r:List (Str×Addr))=>(match x with
   |(name,kind)=>if (kind== .free)=true then(do let a<-cellOf env name;pure (ForInStep.yield ((name,a)::r)))else pure (ForInStep.yield r):Sem (ForInStep (List (Str×Addr)))))=pure (iO env ns acc):=by
 induction ns with
 |nil=>intro acc _;rw[List.forIn_nil];rfl
 |cons nk r ih=>
  intro acc h;rcases nk with⟨n,k⟩;rw[List.forIn_cons];dsimp only[iO];have ih:=λacc=>ih acc λp hp=>h p (.tail _ hp);cases hk:(k==NameKind.free)with
  |true=>
   have hc:=h (n,k) (.head _) (cj hk);obtain⟨a,ha⟩:=yx.mp hc;have e:cellOf env n=pure a:=by unfold cellOf;rw[ha]
   simp only[hk,if_true,e];rw[ha];exact ih _
  |false=>
   simp only[hk,we,if_false];exact ih _
theorem r_{sc:Scope}{env:Env}(h:∀p∈sc.names,p.2= .free->(env.cells.lookup p.1).isSome=true):closureFor sc env=pure (iO env sc.names []):=by
 have:=Ei env sc.names [] h;have e:closureFor sc env=((forIn sc.names [] λ(x:Str×NameKind) (r:List (Str×Addr))=>(match x with
   |(name,kind)=>if (kind== .free)=true then(do let a<-cellOf env name;pure (ForInStep.yield ((name,a)::r)))else pure (ForInStep.yield r):Sem (ForInStep (List (Str×Addr)))))>>=λr=>pure r):=rfl
 rw[e,this];rfl
theorem pO(env:Env)(x:Str)(ns:mD):∀(acc:List (Str×Addr)),(∀p∈ns,p.2= .free->(env.cells.lookup p.1).isSome=true)->
  (∀a,acc.lookup x=some a->env.cells.lookup x=some a)->(acc.lookup x).isSome=true\/(x,NameKind.free)∈ns->((iO env ns acc).lookup x)=env.cells.lookup x:=by
 induction ns with
 |nil=>
  intro acc _ h2 h3;rcases h3 with h3|h3
  ·obtain⟨a,ha⟩:=yx.mp h3;rw[ha,h2 a ha]
  ·cases h3
 |cons nk r ih=>
  intro acc h1 h2 h3;rcases nk with⟨n,k⟩;dsimp only[iO];have X_:=λp hp=>h1 p (.tail _ hp);split
  ·rename_i hk;have hk:=cj hk;obtain⟨a,ha⟩:=yx.mp (h1 (n,k) (.head _) hk);refine ih _ X_ (λb hb=>?_) ?_
   ·rw[ha]at hb;rw[oe]at hb;split at hb
    ·rename_i q;cases hb;rw[cj q];exact ha
    ·exact h2 b hb
   ·by_cases hx:x=n
    ·left;rw[hx,oe,beq_self_eq_true];rfl
    ·rcases h3 with h3|h3
     ·left;rw[oe];have:(x==n)=false:=by simpa using hx
      rw[this];exact h3
     ·rcases dJ.mp h3 with e|h3
      ·cases e;exact absurd rfl hx
      ·exact .inr h3
  ·rename_i hk;refine ih acc X_ h2 (h3.imp id λh3=>?_);rcases dJ.mp h3 with e|h3
   ·cases e;exact absurd rfl hk
   ·exact h3
theorem qM{ns:mD}{y:Str}{k:NameKind}:∀{cn:mD},(rel ns cn).lookup y=some k->∃k0,(y,k0)∈cn/\k=if (k0== .free&&ns.lookup y==some .cell)then .cell else k0
 |[],h=>by cases h
 |(n,k0)::r,h=>by
  have h:List.lookup y ((if (k0== .free&&ns.lookup n==some .cell)then(n,NameKind.cell)else(n,k0))::rel ns r)=some k:=h;have e:(if (k0== .free&&ns.lookup n==some .cell)then(n,NameKind.cell)else(n,k0))=(n,if (k0== .free&&ns.lookup n==some .cell)then NameKind.cell else k0):=by split<;>rfl
  rw[e,oe]at h;split at h
  ·rename_i q;have q:=cj q;rw[q];exact⟨k0,.head _,by cases h;rfl⟩
  ·obtain⟨k1,a,b⟩:=qM (cn:=r) h;exact⟨k1,.tail _ a,b⟩
theorem gQ{sc:Scope}{env:Env}(hk:env.scope.kind= .function):(relabel sc env).names=rel env.scope.names sc.names:=by refine List.map_congr_left λp _=>?_;obtain⟨n,k⟩:=p;simp[hk,Env.kindOf]
structure Kq (ns cn:mD) (z:Str):Prop where
 var:cn.lookup z=some .local
 ne:z≠Str.empty
 names:∀y k,(y,k)∈cn->y≠Str.empty/\((k= .local/\(y=z\/y=zu)/\cn.lookup y=some .local)\/(k= .free/\ns.lookup y=some .cell)\/k= .globalImplicit)
theorem mem_lookup{y:Str}{k:NameKind}:∀{cn:mD},cn.lookup y=some k->(y,k)∈cn
 |[],h=>by cases h
 |(n,k0)::r,h=>by
  rw[oe]at h;split at h
  ·rename_i q;cases h;rw[cj q];exact .head _
  ·exact .tail _ (mem_lookup h)
theorem gI{ns cn:mD}{z:Str}(h:rZ ns cn z=true):Kq ns cn z:=by
 unfold rZ at h;rw[bx]at h;have names:∀y k,(y,k)∈cn->y≠Str.empty/\((k= .local/\(y=z\/y=zu)/\cn.lookup y=some .local)\/(k= .free/\ns.lookup y=some .cell)\/k= .globalImplicit):=λy k hm=>by
  have:=bf.mp h.2 _ hm;rw[bx]at this;refine⟨by simpa using this.1,?_⟩;have t:=this.2;dsimp only at t;cases k<;>first|change t|skip
  ·rw[bx,mO]at t;exact .inl ⟨rfl,t.1.imp (λz=>cj z) (λz=>cj z),cj t.2⟩
  all_goals first|exact .inr (.inl ⟨rfl,cj t⟩)|exact .inr (.inr rfl)
 have v:=cj h.1;exact⟨v,(names _ _ (mem_lookup v)).1,names⟩
theorem gz{ns:mD}{y:Str}:∀{cn:mD},cn.lookup y=some .local->(rel ns cn).lookup y=some .local
 |[],h=>by cases h
 |(n,k0)::r,h=>by
  show List.lookup y ((if (k0== .free&&ns.lookup n==some .cell)then(n,NameKind.cell)else(n,k0))::rel ns r)=_;have e:(if (k0== .free&&ns.lookup n==some .cell)then(n,NameKind.cell)else(n,k0))=(n,if (k0== .free&&ns.lookup n==some .cell)then NameKind.cell else k0):=by split<;>rfl
  rw[e,oe];rw[oe]at h;split at h
  ·rename_i q;cases h;rfl
  ·rename_i q;exact gz h
theorem zC{T:bk}{ρ:bU}{L:Lo}{env:Env}{nm:List Str}{ls:Ls}{sc:Scope}{z:Str}{v:Nat}{C:Addr}{o:Obj}{m:Str->Option Value}{x:D}{u:Value}(F:cL T ρ L env nm ls)(hc:rZ env.scope.names sc.names z=true)(vM:sc.kind= .function)
  (hC:ρ C= .aY o) (hm:rX o m) (hz:m z=some u) (hx:VR T.P T.cl ρ x u) (xO:∀p∈sc.names,p.2= .free->(env.cells.lookup p.1).isSome=true):
  cL T ρ L (compEnvC sc (iO env sc.names []) C env) (rY nm v z) (ls.set v (some (.d x))):=by
 have N:=gI hc;have kn:∀y,(compEnvC sc (iO env sc.names []) C env).kindOf y=(rel env.scope.names sc.names).lookup y:=λy=>by show(relabel sc env).names.lookup y=_;rw[gQ F.fn]
 have at_:∀(i:Nat) (y:Str),(rY nm v z)[i]?=some y->y≠Str.empty->(i=v/\y=z)\/(i≠v/\(y≠z/\y≠zu)/\nm[i]?=some y):=by
  intro i y e hy;unfold rY at e;by_cases hi:i=v
  ·subst hi;have hl:i<(nm.map λy=>if (y==z||y==zu)then Str.empty else y).length:=by have:=br e;rwa [gq]at this
   rw[pQ hl]at e;exact .inl ⟨rfl,(fh e).symm⟩
  ·rw[bq (gA hi),pR]at e;obtain⟨y0,h1,h2⟩:=ET.mp e;split at h2
   ·exact absurd h2.symm hy
   ·rename_i q;rw[<-h2];exact .inr ⟨hi,by simpa using q,h1⟩
 refine⟨vM,F.J',F.Mg,⟨o,m,hC,hm,λi y w' e1 e2 e3=>?_⟩,λi y w' e1 e2 e3=>?_⟩
 ·rw[kn]at e3;obtain⟨k0,h1,h2⟩:=qM e3;obtain⟨hy,h3⟩:=N.names y k0 h1;have hyz:y=z\/y=zu:=by
   rcases h3 with⟨_,h,_⟩|⟨rfl,h⟩|rfl
   ·exact h
   ·rw[h]at h2;exact absurd h2 ∅
   ·exact absurd h2 (by simp)
  rcases at_ i y e1 hy with⟨rfl,rfl⟩|⟨_,h,_⟩
  ·have hl:i<ls.length:=by have:=br e2;rwa [gq]at this
   replace e2:=(pQ hl)▸e2
   cases e2;exact⟨u,hz,hx⟩
  ·exact(hyz.elim h.1 h.2).elim
 ·rw[kn]at e3;obtain⟨k0,h1,h2⟩:=qM e3;obtain⟨hy,h3⟩:=N.names y k0 h1;have hfr:k0= .free/\env.scope.names.lookup y=some .cell:=by
   rcases h3 with⟨rfl,h,_⟩|h|rfl
   ·exact absurd h2 (by simp)
   ·exact h
   ·exact absurd h2 (by simp)
  obtain⟨rfl,Xl⟩:=hfr;have hyz:=(Classical.em (y=z)).symm;rcases at_ i y e1 hy with⟨rfl,rfl⟩|⟨hi,h,hn⟩
  ·
   exfalso;have lk:=N.var;have:(rel env.scope.names sc.names).lookup y=some .local:=gz lk;rw[this]at e3;cases e3
  ·replace e2:=(bq (gA hi))▸e2
   obtain⟨c,oc,u',q1,q2,q3,q4⟩:=F.Mh i y w' hn e2 Xl;refine⟨c,oc,u',?_,q2,q3,q4⟩;show(iO env sc.names []).lookup y=some c;rw[pO env y sc.names [] xO (λ_ z=>nomatch z) (.inr h1)];exact q1
def fO(L:Lo):Lock->Option Addr
 | .none=>none
 | .aI n _=>some (L.t n)
 | .ax n _=>some (L.p n)
def zD(L:Lo):Lock->Prop
 | .none=>True
 | .aI n _=>n<L.nt
 | .ax n _=>n<L.np
structure Under (T:bk) (prog:Program) (w:World) (A:Around) (ρ:bU) (L:Lo) (items:List D) (I c:Addr) (lk:Lock) (S:Addr->Prop) (i:Nat) (h:Heap):Prop where
 at_:At T prog w A ρ items I c i h
 cl:gp T ρ lk L
 sI:S I
 sc:S c
 sl:∀a,fO L lk=some a->S a
 lt:zD L lk
 nI:fO L lk≠some I
section
variable{T:bk}{eH ρ aJ:bU}{qt L L':Lo}{σ aN:PS}{items:List D}{I c:Addr}{lk:Lock}{S:Addr->Prop}{i:Nat}{h h':Heap}
theorem ur(lt:zD L lk)(l:L.le L'):fO L' lk=fO L lk:=by
 cases lk with
 |none=>rfl
 |aI n t=>show some _=some _;rw[l.t n lt]
 |ax n m=>show some _=some _;rw[l.p n lt]
theorem Kr(lt:zD L lk)(l:L.le L'):zD L' lk:=by
 cases lk with
 |none=>trivial
 |aI n t=>exact pW lt l.nt
 |ax n m=>exact pW lt l.np
theorem gp.keep(C:gp T ρ lk L)(im:bg ρ aJ)(lt:zD L lk)(l:L.le L')(f:∀a o,fO L lk=some a->ρ a= .aY o->aJ a= .aY o):gp T aJ lk L':=by
 cases lk with
 |none=>trivial
 |aI n t=>
  obtain⟨o,c1,c2⟩:=C;exact⟨o,by rw[l.t n lt];exact f _ _ rfl c1,λh tC L'' k ll=>c2 h tC L'' (im.trans k) (l.trans ll)⟩
 |ax n m=>
  obtain⟨o,c1,c2⟩:=C;exact⟨o,by rw[l.p n lt];exact f _ _ rfl c1,λh tC L'' k ll=>c2 h tC L'' (im.trans k) (l.trans ll)⟩
theorem Under.keep(U:Under T prog w A ρ L items I c lk S i h)(R:Rep T ρ L σ h)(R':Rep T aJ L' aN h')(im:bg ρ aJ)(l:L.le L')(f:∀a o,S a->ρ a= .aY o->aJ a= .aY o):Under T prog w A aJ L' items I c lk S i h':=by have e:=ur U.lt l;exact⟨U.at_.keep R R' im (λo=>f _ o U.sI) (λo=>f _ o U.sc),U.cl.keep im U.lt l λa o ha=>f a o (U.sl a ha),U.sI,U.sc,λa ha=>U.sl a (by rw[<-e];exact ha),Kr U.lt l,by rw[e];exact U.nI⟩
theorem Under.next(U:Under T prog w A ρ L items I c lk S i s.heap)(R:Rep T ρ L σ s.heap){x:D}(hx:items[i]?=some x){Q:Option Value->Shared->Prop}{E:Value->Shared->Prop}
  (k:∀v aC ao,bg ρ ao->(∀a o,a≠I->ρ a= .aY o->ao a= .aY o)->Rep T ao L σ aC.heap->cS s aC->VR T.P T.cl ao x v->Under T prog w A ao L items I c lk S (i+1) aC.heap->Q (some v) aC): ~~~(pyNext (.ref I)) Q E s:=
 Ra U.at_ R hx λv aC ao im f R' d p W=>k v aC ao im f R' d p ⟨W,U.cl.keep im U.lt .refl λa o ha=>f a o λz=>U.nI (z▸ha),U.sI,U.sc,U.sl,U.lt,U.nI⟩
theorem gp.close(C:gp T ρ lk L)(R:Rep T ρ L σ s.heap):∃ao,bg ρ ao/\Rep T ao L (itClose σ lk) s.heap/\∀a o,ρ a= .aY o->fO L lk≠some a->ao a= .aY o:=by
 obtain⟨ao,im,R',f⟩:=Kp (s:=s) C R;refine⟨ao,im,R',λa o e n=>f a o e ?_⟩;cases lk with
 |none=>trivial
 |aI n t=>exactλz=>n (by rw[z];rfl)
 |ax n m=>exactλz=>n (by rw[z];rfl)
theorem Under.last(U:Under T prog w A ρ L items I c lk S i s.heap)(R:Rep T ρ L σ s.heap)(hi:i=items.length){Q:Option Value->Shared->Prop}{E:Value->Shared->Prop}
  (k:∀aC ao,bg ρ ao->(∀a o,ρ a= .aY o->a≠I->fO L lk≠some a->ao a= .aY o)->Rep T ao L (itClose σ lk) aC.heap->cS s aC->Q none aC): ~~~(pyNext (.ref I)) Q E s:=by
 refine Rb U.at_ R hi λaC ao im f R' d=>?_;have C:=U.cl.keep im U.lt .refl λa o ha=>f a o λz=>U.nI (z▸ha);obtain⟨aZ,im',gY,f'⟩:=C.close R';exact k aC aZ (im.trans im') (λa o e h1 h2=>f' a o (f a o h1 e) h2) gY d
theorem Hl{v:PV}{items:List D}{lk:Lock}(R:Rep T ρ L σ h)(e:dZ σ v=some (items,aN,lk)):zD L lk/\∀a,fO L lk=some a->∃g,ρ a= .own g:=by
 have aI:∀{n t t₀},t₀≠.dead->σ.tm[n]?=some t₀->zD L (.aI n t)/\∀a,fO L (.aI n t)=some a->∃g,ρ a= .own g:=by
  intro n t t₀ nd q;refine⟨by show n<L.nt;rw[R.nt];exact br q,λa ha=>?_⟩;cases ha;have:=R.aI n _ q;cases t₀ with
  |list l=>exact⟨_,this.1⟩
  |dict l=>exact⟨_,this.1⟩
  |dead=>exact absurd rfl nd
 cases v with
 |d x=>
  cases x<;>first|exact noS e|skip
  ·exists e;exact⟨trivial,λa h=>nomatch h⟩
  ·exists e;exact⟨trivial,λa h=>nomatch h⟩
  ·refine dN e λ_ e=>?_;exists e;exact⟨trivial,λa h=>nomatch h⟩
  ·refine dN e λ_ e=>?_;exists e;exact⟨trivial,λa h=>nomatch h⟩
 |aI n=>
  refine aL e λy q e=>?_;cases y<;>first|exact noS e|skip
  ·exists e;exact aI (by intro z;cases z) q
  ·refine dN e λ_ e=>?_;exists e;exact aI (by intro z;cases z) q
 |ax n=>
  refine aL e λy q e=>?_;cases y<;>first|exact noS e|skip
  exists e;refine⟨by show _<L.np;rw[R.np];exact br q,λa ha=>?_⟩;rw[<-fh (show some (L.p n)=some a from ha)];exact⟨_,(R.ax _ _ q).1⟩
theorem mF(hP:T.P=w.params)(hh:A.handled=none)(K:hJ T ρ)(R:Rep T ρ L σ s.heap){v:PV}{u:Value}{items:List D}{lk:Lock}(p:cv T ρ L v u)(e:dZ σ v=some (items,aN,lk)){Q:Value->Shared->Prop}
  (k:∀I c aC ao S,gc ρ ao->Rep T ao L aN aC.heap->cS s aC->ρ I= .free->(∀a,S a->ao a≠.free)->(∀a,fO L lk=some a->∀o,ρ a≠.aY o)->(∀a,S a->∀o,ρ a≠.aY o)->Under T prog w A ao L items I c lk S 0 aC.heap->Q (.ref I) aC): ~~~(pyIter u) Q lH s:=by
 obtain⟨lt,ow⟩:=Hl R e;refine Q' hP hh K R p e λI aC ao le R' d hI W C=>?_;obtain⟨c,nf,W⟩:=W.at0 hh;have nI:fO L lk≠some I:=λz=>by obtain⟨g,hg⟩:=ow I z;rw[hI]at hg;cases hg
 refine k I c aC ao (λa=>a=I\/a=c\/fO L lk=some a) le R' d hI ?_ (λa ha o=>by obtain⟨g,hg⟩:=ow a ha;rw[hg];intro z;cases z) ?_ ⟨W,C,.inl rfl,.inr (.inl rfl),λa ha=> .inr (.inr ha),lt,nI⟩;obtain⟨oI,hI1⟩:=W.it;rotate_left
 ·rintro a (rfl|rfl|h) o z
  ·rw[hI]at z;cases z
  ·exact nf o z
  ·obtain⟨g,hg⟩:=ow a h;rw[hg]at z;cases z
 rintro a (rfl|rfl|h)
 ·rw[hI1];intro z;cases z
 ·rcases W.con with rfl|⟨oc,h|h⟩
  ·rw[hI1];intro z;cases z
  ·rw[h];intro z;cases z
  ·rw[h];intro z;cases z
 ·cases lk with
  |none=>cases h
  |aI n t=>cases h;obtain⟨o,c1,_⟩:=C;rw[c1];intro z;cases z
  |ax n m=>cases h;obtain⟨o,c1,_⟩:=C;rw[c1];intro z;cases z
end
section
variable(T:bk)(prog:Program)(w:World)(A:Around)(X:Cx)(env:Env)(nm:List Str)
def zE(es:Es)(xs:List Expr):Prop:=∀ls σ s ρ L b aN,hJ T ρ->cL T ρ L env nm ls->Rep T ρ L σ s.heap->cx X es ls σ=some (b,aN)->
 ~~~(forIn xs true λc r=>if r=true then do let ok<-PySem.isTrue c env (PySem.eval c env);pure (ForInStep.yield ok)else pure (ForInStep.yield r)) (λc s'=>c=b/\After T ρ L s aN s' λ_ _=>True) lH s
end
section
variable{T:bk}{X:Cx}{env:Env}{nm:List Str}
theorem Hm:zE T prog w A X env nm .nil []:=by intro ls σ s ρ L v aN K F R q;cases q;exact wpAny_tests_nil ⟨rfl,.eV R (.refl s) trivial⟩
theorem xY{M:Model}{Q:Bool->Shared->Prop}{E:Value->Shared->Prop}{s:Shared}(h:Q false s):∀(xs:List Expr),
  wpAny M A (forIn xs false λc r=>if r=true then do let ok<-PySem.isTrue c env (PySem.eval c env);pure (ForInStep.yield ok)else pure (ForInStep.yield r)) Q E s
 |[]=>by rw[List.forIn_nil];exact wpAny_pure h
 |x::xs=>by rw[List.forIn_cons];exact wpAny_bind (wpAny_pure (xY h xs))
theorem A7{e:E}{es:Es}{x:Expr}{xs:List Expr}(h1:j7 T prog w A X env nm e x)(h2:zE T prog w A X env nm es xs):zE T prog w A X env nm (.cons e es) (x::xs):=by
 intro ls σ s ρ L v aN K F R q;rw[List.forIn_cons];refine aF q λb0 aj q1 q=>?_;cases b0;rotate_left
 ·refine wpAny_bind ?_;rw[if_pos rfl];refine wpAny_bind (h1.aV K F R q1 λaC ao aQ a b c d bw bu=>wpAny_pure ?_);exact wpAny_mono (h2 _ _ _ _ _ _ _ bw bu c q) (λu bG P=>⟨P.1,P.2.from a b d⟩) λ_ _ z=>z
 ·cases q;refine wpAny_bind ?_;rw[if_pos rfl];refine wpAny_bind (h1.aV K F R q1 λaC ao aQ a b c d bw bu=>wpAny_pure ?_);exact xY ⟨rfl,.now a b c d trivial⟩ xs
end
theorem At.self{T:bk}{prog:Program}{w:World}{A:Around}{ρ:bU}{items:List D}{I c:Addr}{i:Nat}{s:Shared}(W:At T prog w A ρ items I c i s.heap){Q:Value->Shared->Prop}{E:Value->Shared->Prop}(h:Q (.ref I) s):
  ~~~(pyIter (.ref I)) Q E s:=by
 obtain⟨_,_,fp,St,h4,a,b,d⟩:=W;exact a.self i s Q E b h
section
variable{T:bk}{X:Cx}{env:Env}{nm:List Str}{eH ρ:bU}{qt L:Lo}{σ bJ:PS}{items ys:List D}{I c:Addr}{lk:Lock}{S:Addr->Prop}{ls:Ls}
theorem Ks{ns cn:mD}{z:Str}(h:rZ ns cn z=true):∀y∈cn,y.2≠.cell:=by intro y hy e;obtain⟨_,h3⟩:=(gI h).names y.1 y.2 hy;rcases h3 with⟨h,_⟩|⟨h,_⟩|h<;>(rw[h]at e;cases e)
theorem Hn{km:Ls->PS->Option (Bool×PS)}{elt:Ls->PS->Option (PV×PS)}{v:Nat}{x:D}{r ys:List D}{ls:Ls}{σ aN:PS}{P:Prop}(q:dm km elt v (x::r) ls σ=some (ys,aN))
  (k1:∀aj u aM y bJ zs,km (ls.set v (some (.d x))) σ=some (true,aj)->elt (ls.set v (some (.d x))) aj=some (u,aM)->aM.freeze u=some (y,bJ)->dm km elt v r ls bJ=some (zs,aN)->ys=y::zs->P)
  (k0:∀aj,km (ls.set v (some (.d x))) σ=some (false,aj)->dm km elt v r ls aj=some (ys,aN)->P):P:=by
 refine aF q λb aj q1 q=>?_;cases b with
 |false=>exact k0 _ q1 q
 |true=>
  refine aF q λu aM q2 q=>?_;refine aF q λy bJ q3 q=>?_;refine aF q λzs hO q4 q=>?_;cases q;exact k1 _ _ _ _ _ _ q1 q2 q3 q4 rfl
inductive Ho (T:bk) (prog:Program) (w:World) (A:Around) (eH:bU) (qt L:Lo) (s:Shared) (items ys:List D) (I c:Addr) (lk:Lock) (S:Addr->Prop) (ts:FT) (el:FE) (v:Nat) (ls:Ls) (D C:Addr) (bJ:PS) (n:Nat) (s':Shared):Prop
 |mk (i:Nat) (done rest:List Mine.D) (vs:Array Value) (k:Nat) (oC:Obj) (mC:Str->Option Value) (aJ:bU) (L':Lo) (aN:PS) (hn:n=items.length+1-i) (hi:i<=items.length) (q:dm ts el v (items.drop i) ls aN=some (rest,bJ)) (hy:ys=done++rest)
   (le:gc eH aJ) (l:qt.le L') (l':L.le L') (R:Rep T aJ L' aN s'.heap) (d:cS s s') (eD:aJ D= .aY (gW vs k)) (rD:dB T.P T.cl aJ done vs.toList) (eC:aJ C= .aY oC) (nC:rX oC mC) (U:Under T prog w A aJ L' items I c lk S i s'.heap):Ho T prog w A eH qt L s items ys I c lk S ts el v ls D C bJ n s'
theorem sd{elt:E}{v:Nat}{ifs:Es}{y jt:Expr}{js:List Expr}{sc:Scope}{z:Str}{px pos:Pos}{RR:Value->Addr->Result->Shared->Prop}
  (F:cL T eH qt env nm ls) (K:hJ T eH) (Hj:gc eH ρ) (l0:qt.le L) (R:Rep T ρ L σ s.heap) (U:Under T prog w A ρ L items I c lk S 0 s.heap) (hI:eH I= .free) (hS:∀a,S a->ρ a≠.free) (hl:∀a,fO L lk=some a->∀o,eH a≠.aY o)
  (q:dm (λl s=>cx X ifs l s) (λl s=>eval X elt l s) v items ls σ=some (ys,bJ)) (hf:fits ys=true)
  (hc:rZ env.scope.names sc.names z=true) (vM:sc.kind= .function) (xO:∀p∈sc.names,p.2= .free->(env.cells.lookup p.1).isSome=true)
  (hE:∀C,bO T prog w A X (compEnvC sc (iO env sc.names []) C env) (rY nm v z) elt y) (hT:∀C,zE T prog w A X (compEnvC sc (iO env sc.names []) C env) (rY nm v z) ifs js)
  (hRR:∀D C s' aJ L' vs k oC mC,gc eH aJ->qt.le L'->Rep T aJ L' (itClose bJ lk) s'.heap->cS s s'->aJ D= .aY (gW vs k)->dB T.P T.cl aJ ys vs.toList->aJ C= .aY oC->rX oC mC->(∀o,eH D≠.aY o)->(∀o,eH C≠.aY o)->D≠C->
   RR (.ref D) C (.ok .next) s'):
  ~~~(newList []) (λacc fH=>~~~(newFunctionEnv sc env.globals (iO env sc.names []) [] env.qual none .none (some env)) (λXm Ej=>
   codeAny (model prog w) A (.compStart (.ListComp y [⟨.Name z px,jt,js,0⟩] sc pos) 0 (.ref I) acc {Xm with scope:=relabel sc env}) (RR acc Xm.locals) Ej) lH fH) lH s:=by
 have N:=gI hc;refine wpAny_newObj_type (wpAny_newFunctionEnv (Ks hc) (by intro y hy;simp at hy) (λHb vO vP=>?_) vM);generalize hH2:s.heap.push {cls:= .type "list",dict:=none,data:= .seq ([]:List Value).toArray}=H2 at vO vP⊢;generalize hD:s.heap.objs.size=D at hH2⊢;generalize hC:H2.objs.size=C at vO vP⊢;have fD:=hD▸R.new;have RD:=R.zg (gW #[] 0) rfl
 replace RD:=hD▸RD
 have RD1:=hH2▸RD.1;have fC:=hC▸RD1.new;have Ic:D≠C:=λe=>by rw[<-e,aO]at fC;cases fC
 obtain⟨oC,gC,nC⟩:=AV vO;have RC:Rep T (up (up ρ D (.aY (gW #[] 0))) C (.aY oC)) L σ Hb:=RD1.takes (.inl fC) (λa o ha _ e=>vP.extBut a o ha (h_ _ e)) gC;have YT:=RD.2.trans (dQ (r:= .aY oC) fC);have S_D:∀a,S a->a≠D:=λa ha e=>hS a ha (e▸fD);have S_C:∀a,S a->a≠C:=λa ha e=>by have h1:=hS a ha;subst e;rw[a8 (S_D a ha)]at fC;exact h1 fC
 have SE:∀o,eH D≠.aY o:=λo e=>by have:=Hj.aY _ _ e;rw[fD]at this;cases this
 have Rd:∀o,eH C≠.aY o:=λo e=>by have:=(Hj.trans RD.2).aY _ _ e;rw[fC]at this;cases this
 have UC:=U.keep R RC YT.bB .refl λa o _ e=>YT.aY a o e;have hkz:Env.kindOf (compEnvC sc (iO env sc.names []) C env) z=some .local:=lookup_relabel_local N.var;have loop:∀fH:Shared,fH={s with heap:=Hb,toks:=s.toks+([]:List (Str×Value)).length}->
   codeAny (model prog w) A (.compLoop (.ListComp y [⟨.Name z px,jt,js,0⟩] sc pos) 0 (.ref I) (.ref D) (compEnvC sc (iO env sc.names []) C env)) (RR (.ref D) C) fH:=by
  rintro fH rfl;refine codeAny_compLoop_tests (Ho T prog w A eH qt L s items ys I c lk S (λl s=>cx X ifs l s) (λl s=>eval X elt l s) v ls D C bJ) ?_ (items.length+1)
   (.mk 0 [] ys #[] 0 oC _ _ L σ rfl (eJ _) q rfl (Hj.trans YT) l0 .refl RC ⟨_,_,rfl⟩ (by rw[a8 Ic,aO]) trivial aO nC UC)
  clear q R RC UC YT RD RD1 gC nC vP vO;intro n s' st;obtain⟨i,done,rest,vs,k,oC,mC,ao,aQ,aj,hn,hi,q,hy,SF,l1,l1',kY,tD,eD,rD,eC,nC,Ek⟩:=st;by_cases sR:i<items.length
  ·have hx:=mN sR;rw[List.drop_eq_getElem_cons sR]at q;refine Ek.next kY hx λval bG aZ xZ zF gY mG Hh U₂=>?_;have hDI:=gA (S_D I U.sI);have hCI:=gA (S_C I U.sI);have le2:gc eH aZ:=⟨SF.bB.trans xZ,λa o e=>zF a o (λz=>(by rw[z,hI]at e;cases e)) (SF.aY a o e)⟩;have Xn:=zF _ _ hDI eD;have Hp:=zF _ _ hCI eC;refine wpAny_assign_Name (wpAny_storeName_local hkz (uf (gY.aY Hp) nC) (λh' hn' sb=>?_) (by show(sc.kind== .class||(sc.kind== .module&&_))=false;rw[vM];rfl));refine goQ λG hG=>?_;obtain⟨Rf,gC',nC'⟩:=AV hn';have ky:Rep T (up aZ C (.aY Rf)) aQ aj h':=gY.takes (.inr ⟨_,Hp⟩) (λa o ha _ e=>sb.extBut a o ha e) gC';have A9:bg aZ (up aZ C (.aY Rf)):=dw λo=>by rw[Hp];intro z;cases z
   have ES:gc eH (up aZ C (.aY Rf)):=⟨le2.bB.trans A9,λa o e=>by rw[a8 λ(z:a=C)=>Rd o (z▸e)];exact le2.aY a o e⟩;have Kt:=U₂.keep gY ky A9 .refl λa o ha e=>by rw[a8 (S_C a ha)];exact e
   have Mp:up aZ C (.aY Rf) D= .aY (gW vs k):=by rw[a8 Ic];exact Xn
   have Mq:=dB.mono (xZ.trans A9) rD;have qo:=zC (v:=v) (F.mono ES l1) hc vM aO nC' (u:=val) (by simp) (VR.mono A9 Hh) xO;refine Hn q (λhO ev Hq yv Mr Xo q1 q2 q3 q4 ey=>?_) λhO q1 q=>?_
   ·refine hG (wpAny_mono (hT C _ _ _ _ _ _ (K.mono ES) qo (s:={bG with heap:=h',toks:=bG.toks+1}) ky q1) (λb Ej Rg=>?_) λ_ _ z=>SD z);obtain⟨y,iP,zG,jF,tE,se,x_,_⟩:=Rg;refine ifT y ?_;have le4:=ES.trans jF;refine wpAny_mono (hE C _ _ _ _ _ _ _ (K.mono le4) (qo.mono jF tE) se q2) (λu s₅ h₅=>?_) λ_ _ z=>SD z;obtain⟨uu,Hr,a₅,b₅,Rh,d₅,p₅⟩:=h₅;obtain⟨Hs,a₆,Ku,p₆⟩:=iH Rh p₅ q3;have Ri:=(jF.trans a₅).trans a₆;have b36:=tE.trans b₅;have U₆:=Kt.keep ky Ku Ri.bB b36 λa o _ e=>Ri.aY a o e;have Ht:=Ri.aY _ _ Mp;have Xp:=Ri.aY _ _ (aO (ρ:=aZ) (a:=C) (r:= .aY Rf));have Xq:=dB.mono Ri.bB Mq;have hsz:vs.size<=sizeLine:=by
     have e1:=rD.length;have e2:=dh hf;have e3:=dH;rw[hy,ey,dS]at e2;simp only[Array.length_toList]at e1
     lia
    refine wpAny_list_append_plain (hsz:=hsz) ⟨k,Ku.aY Ht⟩ λh'' hl'' sb''=>?_;obtain⟨k',g''⟩:=hl'';have Xr:Rep T (up Hs D (.aY (gW (vs.push u) k'))) Hr Mr h'':=Ku.takes (.inr ⟨_,Ht⟩) (λa o ha _ e=>sb''.extBut a o ha e) g'';have A_:bg Hs (up Hs D (.aY (gW (vs.push u) k'))):=dw λo=>by rw[Ht];intro z;cases z
    refine⟨items.length+1-(i+1),?_,.mk (i+1) (done++[yv]) Xo (vs.push u) k' Rf _ _ Hr Mr rfl sR q4 (by rw[hy,ey,eI];rfl) ⟨(ES.trans Ri).bB.trans A_,λa o e=>by rw[a8 λ(z:a=D)=>SE o (z▸e)];exact(ES.trans Ri).aY a o e⟩ (l1.trans b36) (l1'.trans b36) Xr ?_ aO ?_ ?_ nC' ?_⟩
    ·omega
    ·exact(((tD.trans mG).trans ⟨_,_,rfl⟩).trans (x_.trans d₅)).trans ⟨_,_,rfl⟩
    ·rw[Array.toList_push];exact dB.append (dB.mono A_ Xq) ⟨VR.mono A_ p₆,trivial⟩
    ·rw[a8 (gA Ic)];exact Xp
    ·exact U₆.keep Ku Xr A_ .refl λa o ha e=>by rw[a8 (S_D a ha)];exact e
   ·refine hG (wpAny_mono (hT C _ _ _ _ _ _ (K.mono ES) qo (s:={bG with heap:=h',toks:=bG.toks+1}) ky q1) (λb Ej Rg=>?_) λ_ _ z=>SD z);obtain⟨y,iP,zG,jF,tE,se,x_,_⟩:=Rg;refine ifF y ⟨items.length+1-(i+1),?_,.mk (i+1) done rest vs k Rf _ iP zG hO rfl sR q hy (ES.trans jF) (l1.trans tE) (l1'.trans tE) se ?_ (jF.aY _ _ Mp) (dB.mono jF.bB Mq) (jF.aY _ _ aO) nC' ?_⟩
    ·omega
    ·exact((tD.trans mG).trans ⟨_,_,rfl⟩).trans x_
    ·exact Kt.keep ky se jF.bB tE λa o _ e=>jF.aY a o e
  ·have Xs:i=items.length:=by omega
   rw[Xs,List.drop_length]at q;cases q;rw[ej]at hy;subst hy;have lkn:=ur U.lt l1';refine Ek.last kY Xs λbG aZ xZ zF gY mG=>?_;have sl:=Ek.sl;have f0:∀a o,eH a= .aY o->a≠I/\fO aQ lk≠some a:=λa o e=>⟨λz=>(by rw[z,hI]at e;cases e),λz=>hl a (lkn▸z) o e⟩;refine hRR D C bG aZ aQ vs k oC mC ⟨SF.bB.trans xZ,λa o e=>zF a o (SF.aY a o e) (f0 a o e).1 (f0 a o e).2⟩ l1 gY (tD.trans mG) (zF _ _ eD (gA (S_D I U.sI)) λz=>S_D D (sl D z) rfl) (dB.mono xZ rD) (zF _ _ eC (gA (S_C I U.sI)) λz=>S_C C (sl C z) rfl) nC SE Rd Ic
 exact codeAny_compStart_list (loop _ rfl) (UC.at_.self (s:={s with heap:=Hb,toks:=s.toks+([]:List (Str×Value)).length}) (loop _ rfl))
end
structure mc (env:Env):Prop where
 kind:env.scope.kind= .function
 cells:∀x,env.scope.names.lookup x=some .cell->(env.cells.lookup x).isSome=true
theorem mc.free{env:Env}(O:mc env){cn:mD}{z:Str}(hc:rZ env.scope.names cn z=true):∀p∈cn,p.2= .free->(env.cells.lookup p.1).isSome=true:=by
 intro p hp e;obtain⟨_,h⟩:=(gI hc).names p.1 p.2 hp;rcases h with⟨h,_⟩|⟨_,h⟩|h
 ·rw[h]at e;cases e
 ·exact O.cells _ h
 ·rw[h]at e;cases e
theorem mc.comp{env:Env}(O:mc env){sc:Scope}{z:Str}{C:Addr}(hc:rZ env.scope.names sc.names z=true)(vM:sc.kind= .function):mc (compEnvC sc (iO env sc.names []) C env):=by
 refine⟨vM,λx e=>?_⟩;have e:(relabel sc env).names.lookup x=some .cell:=e;rw[gQ O.kind]at e;obtain⟨k0,h1,h2⟩:=qM e;obtain⟨_,h3⟩:=(gI hc).names x k0 h1;rcases h3 with⟨rfl,_⟩|⟨rfl,h⟩|rfl
 ·exact absurd h2 (by simp)
 ·show((iO env sc.names []).lookup x).isSome=true;rw[pO env x sc.names [] (O.free hc) (λ_ z=>nomatch z) (.inr h1)];exact O.cells _ h
 ·exact absurd h2 (by simp)
section
variable{T:bk}{X:Cx}{env:Env}{nm:List Str}
theorem ya{ns cn:mD}{z:Str}(h:rZ ns cn z=true):∀y∈cn,y.2= .local->cn.lookup y.1=some .local:=by
 intro y hy e;obtain⟨_,h3⟩:=(gI h).names y.1 y.2 hy;rcases h3 with⟨_,_,q⟩|⟨q,_⟩|q
 ·exact q
 ·rw[q]at e;cases e
 ·rw[q]at e;cases e
theorem Hu{eH aJ:bU}{qt L':Lo}{σ aN:PS}{ys:List D}{v:PV}{D C:Addr}{s s':Shared}{vs:Array Value}{k:Nat}{oC:Obj}(le:gc eH aJ)(l:qt.le L')(R:Rep T aJ L' σ s'.heap)(d:cS s s')(eD:aJ D= .aY (gW vs k))(rD:dB T.P T.cl aJ ys vs.toList)
  (eC:aJ C= .aY oC) (nD:∀o,eH D≠.aY o) (nC:∀o,eH C≠.aY o) (Ic:D≠C) (q:σ.sZ ys=some (v,aN)) {h':Heap} (sb:Heap.SameBut C s'.heap h'):jZ T eH qt s v aN (.ref D) {s' with heap:=h'}:=by
 have R1:Rep T (up aJ C .free) L' σ h':=R.takes (.inr ⟨_,eC⟩) (λa o ha _ e=>sb.extBut a o ha e) trivial;have im1:bg aJ (up aJ C .free):=dw λo=>by rw[eC];intro z;cases z
 have eD1:up aJ C .free D= .aY (gW vs k):=by rw[a8 Ic];exact eD
 have g:=R1.aY eD1;have R2:Rep T (up (up aJ C .free) D .free) L' σ h':=R1.takes (.inr ⟨_,eD1⟩) (λa o ha _ e=>e) trivial;have Xu:bg (up aJ C .free) (up (up aJ C .free) D .free):=dw λo=>by rw[eD1];intro z;cases z
 obtain⟨cV,lX,a3,b3,R3,p3⟩:=jC (h':=h') (k:=k) R2 aO (λ_ _ _ _ e=>e) g (dB.mono (im1.trans Xu) rD) q;refine .now ⟨((le.bB.trans im1).trans Xu).trans a3.bB,λa o e=>a3.aY a o ?_⟩ (l.trans b3) R3 (d.trans ⟨_,_,rfl⟩) p3;have h1:a≠D:=λz=>nD o (z▸e);have h2:a≠C:=λz=>nC o (z▸e);rw[a8 h1,a8 h2];exact le.aY a o e
theorem Kv(hP:T.P=w.params)(hh:A.handled=none)(O:mc env){elt:E}{v:Nat}{it:E}{ifs:Es}{y jt:Expr}{js:List Expr}{sc:Scope}{z:Str}{px pos:Pos}
  (hc:rZ env.scope.names sc.names z=true) (vM:sc.kind= .function) (zH:∀x,foldedSetIterable jt env x=pure x) (h1:bO T prog w A X env nm it jt)
  (hE:∀C,bO T prog w A X (compEnvC sc (iO env sc.names []) C env) (rY nm v z) elt y) (hT:∀C,zE T prog w A X (compEnvC sc (iO env sc.names []) C env) (rY nm v z) ifs js):
  bO T prog w A X env nm (.comp elt v it ifs) (.ListComp y [⟨.Name z px,jt,js,0⟩] sc pos):=by
 intro ls σ s ρ L r aN K F R q;refine aF q λxv aj q1 q=>?_;refine je q λitems aM lk q2 q=>?_;refine aF q λys bJ q3 q=>?_;have hf:=(fj q).1;rw[eval_ListComp];refine wpAny_comprehension_free (use:=none) rfl zH (r_ (O.free hc)) vM (ya hc) ?_;refine h1.aV K F R q1 λu aC ao aQ a b c d p bw bu=>?_;refine mF hP hh bw c p q2 λI cc bG aZ S le gY mG hI hS hl Ia U=>?_;refine sd (RR:=λacc C=>compPost (model prog w) A lH none (λu s'=>jZ T ρ L s r aN u s') acc C) bu bw le .refl gY U hI hS hl q3 hf hc vM (O.free hc) hE hT ?_;intro D C s' aJ L' vs k oC mC YU l' R' d' eD rD eC nC SE Rd Ic;refine⟨_,uf (R'.aY eC) nC,λh' sb=>?_⟩;exact After.from a b (d.trans mG) (Hu YU l' R' d' eD rD eC SE Rd Ic q sb)
theorem jc{e:Expr}(h:vG e=true):∀x,foldedSetIterable e env x=pure x:=by intro x;cases e<;>first|rfl|cases h
theorem Rj{x:Expr}:bO T prog w A X env nm .bad x:=by intro ls σ s ρ L v aN K F R q;exists q
end
structure Ctx (T:bk) (tb:Tb) (prog:Program) (w:World) (A:Around) (n:Nat) (X:Cx):Prop where
 ok:dG T w
 rm:lY n A
 lk:tB T tb prog w n X
structure Rk (T:bk) (prog:Program) (w:World) (A:Around) (X:Cx) (env:Env) (nm:List Str) (e:E) (x:Expr):Prop where
 ev:bO T prog w A X env nm e x
 ts:j7 T prog w A X env nm e x
structure Xv (T:bk) (prog:Program) (w:World) (A:Around) (X:Cx) (env:Env) (nm:List Str) (es:Es) (xs:List Expr):Prop where
 Lw:kX T prog w A X env nm es xs
 and:xS T prog w A X env nm es xs
 or:G8 T prog w A X env nm es xs
 Xw:r9 T prog w A X env nm es xs
 tor:xT T prog w A X env nm es xs
 ft:zE T prog w A X env nm es xs
section
variable{T:bk}{tb:Tb}{n:Nat}{X:Cx}
theorem bP{env:Env}{nm:List Str}{e:E}{x:Expr}(he:ly X e=km (eval X e))(hx:plainT x=true)(h:bO T prog w A X env nm e x):Rk T prog w A X env nm e x:=⟨h,G9 he hx h⟩
theorem Hv{env:Env}{nm:List Str}{x:Expr}:Rk T prog w A X env nm .bad x:=⟨Rj,by intro ls σ s ρ L v aN K F R q;cases q⟩
theorem zI{d:D}{x:Expr}(h:QQ d x=true):plainT x=true:=by
 refine qm h (λh=>aB h λc h=>?_) λh=>aB h λu h=>aw h λhu _=>?_
 ·rw[c.e];rfl
 ·rw[u.e,of_decide_eq_true hu];rfl
theorem Kw{env:Env}{nm:List Str}{xs:List Expr}:xS T prog w A X env nm .nil xs:=by intro p ls σ s ρ L v aN K F R q;exists q
theorem Rl{env:Env}{nm:List Str}{xs:List Expr}:G8 T prog w A X env nm .nil xs:=by intro p ls σ s ρ L v aN K F R q;exists q
theorem yb(g:Comprehension){z:Str}{p:Pos}(h:g.target= .Name z p)(h0:g.is_async=0):g=⟨.Name z p,g.iter,g.ifs,0⟩:=by cases g;cases h;cases h0;rfl
variable(G:Ctx T tb prog w A n X)
include G
mutual
theorem ba:∀(e:E) {x:Expr} {env:Env} {nm:List Str},mc env->mE tb env.scope.names nm e x=true->Rk T prog w A X env nm e x
 | .lit d,x,env,nm,O,h=>bP rfl (zI h) (QT h)
 | .loc i,x,env,nm,O,h=>aB h λd h=>by rw[d.e];exact bP rfl rfl (QU (λ_=>rfl) h)
 | .glob g,x,env,nm,O,h=>aB h λd h=>aw h λh1 h2=>by rw[d.e];exact bP rfl rfl (Ke G.lk h1 (cj h2))
 | .bin o a b,x,env,nm,O,h=>aB h λd h=>aw h λh0 h=>aw h λh1 h2=>by rw[d.e,G5 h0];exact bP rfl rfl (QV (ba a O h1).ev (ba b O h2).ev)
 | .cmp o a b,x,env,nm,O,h=>aB h λd h=>aB h λp h=>aB h λr h=>aw h λh0 h=>aw h λhb h=>aw h λh1 h2=>by have e0:=QR h0;rw[e0]at hb;have hb:=(pY _).mp hb;rw[d.e,p.e,r.e,e0];exact⟨QW G.ok.P G.rm.u hb (ba a O h1).ev (ba b O h2).ev,QX G.ok.P G.rm.u hb (ba a O h1).ev (ba b O h2).ev⟩
 | .nt a,x,env,nm,O,h=>aB h λd h=>aw h λh0 h=>by rw[d.e,of_decide_eq_true h0];exact⟨Xb (ba a O h).ev,Xc (ba a O h).ts⟩
 | .and es,x,env,nm,O,h=>aB h λd h=>aw h λh0 h=>by rw[d.e,of_decide_eq_true h0];exact⟨λ_ _ _ _ _ _ _ K F R q=>(fK es O h).and _ _ _ _ _ _ _ _ K F R q,Q5 (fK es O h).Xw⟩
 | .or es,x,env,nm,O,h=>aB h λd h=>aw h λh0 h=>by rw[d.e,of_decide_eq_true h0];exact⟨λ_ _ _ _ _ _ _ K F R q=>(fK es O h).or _ _ _ _ _ _ _ _ K F R q,Xd (fK es O h).tor⟩
 | .ite c a b,x,env,nm,O,h=>aB h λd h=>aw h λh0 h=>aw h λh1 h2=>by rw[d.e];exact⟨QY (ba c O h0).ts (ba a O h1).ev (ba b O h2).ev,QZ (ba c O h0).ts (ba a O h1).ts (ba b O h2).ts⟩
 | .tup es,x,env,nm,O,h=>aB h λd h=>by rw[d.e];exact bP rfl rfl (Q0 (fK es O h).Lw)
 | .lst es,x,env,nm,O,h=>aB h λd h=>by rw[d.e];exact bP rfl rfl (Q1 (fK es O h).Lw)
 | .sP .nil,x,env,nm,O,h=>aB h λd h=>qm h (λh=>aw h λ_ h=>aw h λh1 h2=>by rw[d.e,gy h1,gy h2];exact bP rfl rfl (Km G.lk)) λh=>aB h λk h=>aB h λy h=>aB h λv h=>noB h
 | .sP (.cons a .nil),x,env,nm,O,h=>aB h λd h=>qm h (λh=>aw h λh _=>noB h) λh=>aB h λk h=>aB h λy h=>aB h λv h=>aw h λ_ h=>aw h λ_ h=>noB h
 | .sP (.cons a (.cons b .nil)),x,env,nm,O,h=>aB h λd h=>qm h (λh=>aw h λh _=>noB h) λh=>aB h λk h=>aB h λy h=>aB h λv h=>aw h λ_ h=>aw h λh1 h=>aw h λ_ h=>aw h λh2 h=>by rw[d.e,k.e,y.e,v.e];exact bP rfl rfl (Kn G.ok G.lk G.rm.u (ba a O h1).ev (ba b O h2).ev)
 | .sP (.cons a (.cons b (.cons _ _))),x,env,nm,O,h=>aB h λd h=>qm h (λh=>aw h λh _=>noB h) λh=>aB h λk h=>aB h λy h=>aB h λv h=>aw h λ_ h=>aw h λ_ h=>aw h λ_ h=>aw h λ_ h=>noB h
 | .attr e a,x,env,nm,O,h=>aB h λd h=>aw h λh0 h=>aw h λh1 h=>aw h λh2 h3=>by rw[d.e,cj h0,G.lk.an];exact bP rfl rfl (Kc G.ok (by rw[<-G.lk.nA];exact Nat.ble_eq.mp h1) h2 (ba e O h3).ev)
 | .sub e i,x,env,nm,O,h=>aB h λd h=>aw h λ_ h=>aw h λh1 h2=>by rw[d.e];exact bP rfl rfl (Q2 G.ok G.rm.u (ba e O h1).ev (ba i O h2).ev)
 | .EH e lo hi,x,env,nm,O,h=>aB h λd h=>aB h λs h=>aw h λh0 h=>aw h λhn h=>aw h λh1 h2=>by
  rw[d.e,s.e,kW hn];exact bP rfl rfl (Q9 (ba e O h0).ev (qm h1 (λh=>aw h λh0 h=>by rw[kW h0];exact um h) λh=>aB h λy h=>by rw[y.e];exact uk (ba lo O h).ev)
   (qm h2 (λh=>aw h λh0 h=>by rw[kW h0];exact um h) λh=>aB h λy h=>by rw[y.e];exact uk (ba hi O h).ev))
 | .call f es,x,env,nm,O,h=>aB h λd h=>aB h λy h=>aw h λhk h=>aw h λh0 h=>aw h λh1 h=>aw h λh2 h3=>by rw[d.e,y.e,gy hk];exact bP rfl rfl (Kg G.rm G.lk h0 h1 (cj h2) (lI h3) (fK es O h3).Lw)
 | .aR e m es,x,env,nm,O,h=>aB h λd h=>aB h λy h=>aw h λhk h=>aw h λh0 h=>aw h λh1 h=>aw h λh2 h=>aw h λh3 h=>aw h λh4 h5=>by rw[d.e,y.e,gy hk];exact bP rfl rfl (Ki G.ok G.rm G.lk (cj h0) h1 (lI h5) (Nat.ble_eq.mp h3) h2 (ba e O h4).ev (fK es O h5).Lw)
 | .new c es,x,env,nm,O,h=>aB h λd h=>aB h λy h=>aw h λhk h=>aw h λh0 h=>aw h λh1 h=>aw h λ_ h3=>by rw[d.e,y.e,gy hk];exact bP rfl rfl (Q6 G.rm G.lk h0 (cj h1) (lI h3) (fK es O h3).Lw)
 | .bi b e,x,env,nm,O,h=>aB h λd h=>aB h λy h=>aB h λz h=>aw h λhk h=>aw h λh0 h=>aw h λh1 h=>aw h λh2 h3=>by rw[d.e,y.e,z.e,gy hk];exact bP rfl rfl (Xe G.ok G.rm.handled G.lk h0 (cj h1) h2 (ba e O h3).ev)
 | .comp el v it ifs,x,env,nm,O,h=>aB h λd h=>aB h λg h=>aB h λz h=>aw h λha h=>aw h λh0 h=>aw h λh1 h=>aw h λhb h=>aw h λh3 h=>aw h λh4 h5=>by rw[d.e,g.e,yb g.d z.e (of_decide_eq_true ha)];have hk:=cj h0;have nE:∀C,(compEnvC d.d.2.2.1 (iO env d.d.2.2.1.names []) C env).scope.names=rel env.scope.names d.d.2.2.1.names:=λC=>gQ O.kind;exact bP rfl rfl (Kv G.ok.P G.rm.handled O h1 hk (jc hb) (ba it O h3).ev (λC=>(ba el (O.comp h1 hk) (by rw[nE];exact h4)).ev) (λC=>(fK ifs (O.comp h1 hk) (by rw[nE];exact h5)).ft))
 | .bad,x,env,nm,O,h=>Hv
theorem fK:∀(es:Es) {xs:List Expr} {env:Env} {nm:List Str},mc env->ER tb env.scope.names nm es xs=true->Xv T prog w A X env nm es xs
 | .nil,xs,env,nm,O,h=>by rw[gy h];exact⟨AW,Kw,Rl,xU,AX,Hm⟩
 | .cons e .nil,xs,env,nm,O,h=>aB h λd h=>aw h λh0 h=>aw h λh1 h2=>by have e1:=ba e O h1;rw[d.e,gy h2];exact⟨xR h0 e1.ev AW,Kd e1.ev,Q4 e1.ev,ui e1.ts xU,xV e1.ts AX,A7 e1.ts Hm⟩
 | .cons e (.cons e' es),xs,env,nm,O,h=>aB h λd h=>aw h λh0 h=>aw h λh1 h2=>by have e1:=ba e O h1;have e2:=fK (.cons e' es) O h2;rw[d.e];refine aB h2 λc _=>?_;rw[c.e]at e2⊢;exact⟨xR h0 e1.ev e2.Lw,and_cons e1.ev e2.and,or_cons e1.ev e2.or,ui e1.ts e2.Xw,xV e1.ts e2.tor,A7 e1.ts e2.ft⟩
end
end
inductive Kx (T:bk) (ρ:bU) (L:Lo):Fl->Flow->Prop
 |next:Kx T ρ L .next .next
 |cont:Kx T ρ L .cont .cont
 |ret {v:PV} {u:Value} (p:cv T ρ L v u):Kx T ρ L (.ret v) (.ret u)
@[elab_as_elim] theorem Kx.e{T:bk}{ρ:bU}{L:Lo}{fl:Fl}{f:Flow}{P:Flow->Prop}(h:Kx T ρ L fl f)(n:(∀v,fl≠.ret v)->P .next)(c:(∀v,fl≠.ret v)->P .cont)(r:∀v u,fl= .ret v->cv T ρ L v u->P (.ret u)):P f:=by
 cases h with
 |next=>exact n λv z=>nomatch z
 |cont=>exact c λv z=>nomatch z
 |ret p=>exact r _ _ rfl p
inductive gJ (T:bk) (env:Env) (nm:List Str) (ρ:bU) (L:Lo) (s:Shared) (fl:Fl) (bo:Ls) (aN:PS) (f:Flow) (s':Shared):Prop
 |mk (aJ:bU) (L':Lo) (a:jD env ρ aJ) (b:L.le L') (c:Rep T aJ L' aN s'.heap) (d:cS s s') (e:cL T aJ L' env nm bo) (o:dR aJ env) (r:Kx T aJ L' fl f):gJ T env nm ρ L s fl bo aN f s'
section
variable(T:bk)(prog:Program)(w:World)(A:Around)(X:Cx)(env:Env)(nm:List Str)
def iW(st:S)(x:Stmt):Prop:=∀ls σ s ρ L fl bo aN,hJ T ρ->cL T ρ L env nm ls->dR ρ env->Rep T ρ L σ s.heap->exec X st ls σ=some (fl,bo,aN)->
 ~~~(PySem.exec x env) (λf s'=>gJ T env nm ρ L s fl bo aN f s') lH s
def sf(st:Ss)(xs:List Stmt):Prop:=∀ls σ s ρ L fl bo aN,hJ T ρ->cL T ρ L env nm ls->dR ρ env->Rep T ρ L σ s.heap->execs X st ls σ=some (fl,bo,aN)->
 ~~~(PySem.execs xs env) (λf s'=>gJ T env nm ρ L s fl bo aN f s') lH s
end
structure NmOk (env:Env) (nm:List Str):Prop where
 ok:mc env
 one:∀i x,isVar env.scope.names nm i x=true->once nm i x
section
variable{T:bk}{tb:Tb}{n:Nat}{X:Cx}{env:Env}{nm:List Str}{ρ ao aJ:bU}{L aQ L':Lo}{s aC s':Shared}{σ aj aN:PS}{ls bo:Ls}{fl:Fl}{f:Flow}
theorem gJ.from(a:jD env ρ ao)(b:L.le aQ)(d:cS s aC)(x:gJ T env nm ao aQ aC fl bo aN f s'):gJ T env nm ρ L s fl bo aN f s':=by obtain⟨aJ,L',a',b',c,d',e,o,r⟩:=x;exact⟨aJ,L',a.trans a',b.trans b',c,d.trans d',e,o,r⟩
theorem gJ.quiet(a:gc ρ aJ)(b:L.le L')(c:Rep T aJ L' aN s'.heap)(d:cS s s')(F:cL T ρ L env nm ls)(O:dR ρ env)(r:Kx T aJ L' fl f):gJ T env nm ρ L s fl ls aN f s':=
 ⟨aJ,L',a.toF,b,c,d,F.mono a b,O.mono a,r⟩
theorem jD.SG(a:jD env ρ aJ)(K:hJ T ρ):hJ T aJ:=λx o e=>a.bB x o (K x o e)
theorem iW.aV{st:S}{x:Stmt}(h:iW T prog w A X env nm st x)(K:hJ T ρ)(F:cL T ρ L env nm ls)(O:dR ρ env)(R:Rep T ρ L σ s.heap)(q:exec X st ls σ=some (fl,bo,aN)){Q:Flow->Shared->Prop}
  (k:∀f aC ao aQ,jD env ρ ao->L.le aQ->Rep T ao aQ aN aC.heap->cS s aC->hJ T ao->cL T ao aQ env nm bo->dR ao env->Kx T ao aQ fl f->Q f aC): ~~~(PySem.exec x env) Q lH s:=by
 refine wpAny_mono (h _ _ _ _ _ _ _ _ K F O R q) (λf aC P=>?_) λ_ _ z=>z;obtain⟨ao,aQ,a,b,c,d,e1,e2,e3⟩:=P;exact k f aC ao aQ a b c d (a.SG K) e1 e2 e3
theorem sf.aV{E:Value->Shared->Prop}{st:Ss}{x:List Stmt}(h:sf T prog w A X env nm st x)(K:hJ T ρ)(F:cL T ρ L env nm ls)(O:dR ρ env)(R:Rep T ρ L σ s.heap)(q:execs X st ls σ=some (fl,bo,aN)){Q:Flow->Shared->Prop}
  (k:∀f aC ao aQ,jD env ρ ao->L.le aQ->Rep T ao aQ aN aC.heap->cS s aC->hJ T ao->cL T ao aQ env nm bo->dR ao env->Kx T ao aQ fl f->Q f aC): ~~~(PySem.execs x env) Q E s:=by
 refine wpAny_mono (h _ _ _ _ _ _ _ _ K F O R q) (λf aC P=>?_) λ_ _ z=>SD z;obtain⟨ao,aQ,a,b,c,d,e1,e2,e3⟩:=P;exact k f aC ao aQ a b c d (a.SG K) e1 e2 e3
theorem Rm:sf T prog w A X env nm .nil []:=by intro ls σ s ρ L fl bo aN K F O R q;exists q;exact wpAny_execs_nil (.quiet .refl .refl R (.refl s) F O .next)
theorem Kz{st:S}{r:Ss}{x:Stmt}{xs:List Stmt}(h1:iW T prog w A X env nm st x)(h2:sf T prog w A X env nm r xs):sf T prog w A X env nm (.cons st r) (x::xs):=by
 intro ls σ s ρ L fl bo aN K F O R q;refine wpAny_execs_cons ?_;refine je q λHw bz aj q1 q=>?_;cases Hw
 ·refine h1.aV K F O R q1 λf aC ao aQ a b c d bw bu lZ fr=>?_;cases fr;exact wpAny_mono (h2 _ _ _ _ _ _ _ _ bw bu lZ c q) (λf bG P=>P.from a b d) λ_ _ z=>z
 all_goals
  exists q;refine h1.aV K F O R q1 λf aC ao aQ a b c d bw bu lZ fr=>?_;have:gJ T env nm ρ L s _ _ _ f aC:=⟨ao,aQ,a,b,c,d,bu,lZ,fr⟩;cases fr;exact this
theorem Ro{x:Stmt}:iW T prog w A X env nm .bad x:=by intro ls σ s ρ L fl bo aN K F O R q;exists q
theorem KA{p:Pos}:iW T prog w A X env nm .pass (.Pass p):=by intro ls σ s ρ L fl bo aN K F O R q;exists q;exact wpAny_Pass (.quiet .refl .refl R (.refl s) F O .next)
theorem KC{p:Pos}:iW T prog w A X env nm .cont (.Continue p):=by intro ls σ s ρ L fl bo aN K F O R q;exists q;exact wpAny_Continue (.quiet .refl .refl R (.refl s) F O .cont)
theorem Rq{e:E}{y:Expr}{p:Pos}(h1:bO T prog w A X env nm e y):iW T prog w A X env nm (.ret e) (.Return (some y) p):=by intro ls σ s ρ L fl bo aN K F O R q;refine aF q λv aj q1 q=>?_;exists q;exact wpAny_Return_some (h1.aV K F R q1 λu aC ao aQ a b c d p bw bu=> .quiet a b c d F O (.ret p))
theorem KD{e:E}{p:Pos}(h:SA e=true):iW T prog w A X env nm (.ret e) (.Return none p):=by intro ls σ s ρ L fl bo aN K F O R q;have e:=Ml h;subst e;exists q;exact wpAny_Return_none (.quiet .refl .refl R (.refl s) F O (.ret kU))
theorem Rr{c:E}{a b:Ss}{t:Expr}{y z:List Stmt}{p:Pos}(h0:j7 T prog w A X env nm c t)(h1:sf T prog w A X env nm a y)(h2:sf T prog w A X env nm b z):iW T prog w A X env nm (.ite c a b) (.If t y z p):=by
 intro ls σ s ρ L fl bo aN K F O R q;refine wpAny_If ?_;refine aF q λb0 aj q1 q=>?_;cases b0;rotate_left
 ·refine h0.aV K F R q1 λaC ao aQ a b c d bw bu=>?_;rw[if_pos rfl];exact wpAny_mono (h1 _ _ _ _ _ _ _ _ bw bu (O.mono a) c q) (λf bG P=>P.from a.toF b d) λ_ _ z=>z
 ·refine h0.aV K F R q1 λaC ao aQ a b c d bw bu=>?_;rw[if_neg ∅];exact wpAny_mono (h2 _ _ _ _ _ _ _ _ bw bu (O.mono a) c q) (λf bG P=>P.from a.toF b d) λ_ _ z=>z
theorem yc{y:Expr}(h:r5 y=true)(t:Option Expr)(l:Nat):swapsWith y t l env=pure false:=by cases y<;>first|rfl|cases h
theorem zJ{y o:Expr}{a:Str}{p:Pos}(l:Nat):swapsWith y (some (.Attribute o a p)) l env=pure false:=by cases y<;>rfl
theorem El{y o i:Expr}{p:Pos}(l:Nat):swapsWith y (some (.Subscript o i p)) l env=pure false:=by cases y<;>rfl
theorem Em{y:Expr}{ts:List Expr}{k:Nat}{p:Pos}(l:Nat):swapsWith y (some (.Tuple ts k p)) l env=pure false:=by cases y<;>rfl
theorem zK{y:Expr}{ts:List Expr}{k:Nat}{p:Pos}(h:zv y=true):swappedStores [.Tuple ts k p] y env=pure none:=by cases y<;>first|rfl|cases h
theorem KG(O:mc env){e:E}{y:Expr}{p:Pos}(hn:r5 y=true)(h1:bO T prog w A X env nm e y):iW T prog w A X env nm (.expr e) (.Expr y p):=by
 intro ls σ s ρ L fl bo aN K F O' R q;refine aF q λx aj q1 q=>?_;cases x<;>first|change q|skip
 cases (fj q).2;refine wpAny_Expr_any (h1.aV K F R q1 λu aC ao aQ a b c d p bw bu=> .quiet a b c d F O' .next) ?_ (yc hn _ _);unfold interactive;rw[O.kind];rfl
theorem j9{i:Nat}{x:Str}(h:isVar env.scope.names nm i x=true):env.kindOf x=some .local\/env.kindOf x=some .cell:=by unfold isVar at h;rw[bx,bx,mO]at h;exact h.1.2.imp (λz=>cj z) (λz=>cj z)
theorem En{E:Value->Shared->Prop}(N:NmOk env nm){i:Nat}{x:Str}{v:PV}{u:Value}(h:isVar env.scope.names nm i x=true)(F:cL T ρ L env nm ls)(O:dR ρ env)(a:gc ρ ao)(b:L.le aQ)(c:Rep T ao aQ aN aC.heap)(d:cS s aC)(p:cv T ao aQ v u)
  {Q:Unit->Shared->Prop} (k:∀s',gJ T env nm ρ L s .next (ls.set i (some v)) aN .next s'->Q () s'): ~~~(storeName env x u) Q E aC:=by
 refine qL (F.mono a b) (O.mono a) c (N.one i x h) (j9 h) p λs' aJ a' R' d' F' O'=>k s' ?_;exact⟨aJ,aQ,a.toF.trans a',b,R',d.trans d',F',O',.next⟩
theorem Ba(N:NmOk env nm){i:Nat}{e:E}{z:Str}{y:Expr}{p p':Pos}(hv:isVar env.scope.names nm i z=true)(h1:bO T prog w A X env nm e y)(hs:swapsWith y (some (.Name z p)) p'.line env=pure false):iW T prog w A X env nm (.asg i e) (.Assign [.Name z p] y p'):=by intro ls σ s ρ L fl bo aN K F O R q;refine aF q λv aj q1 q=>?_;exists q;refine wpAny_Assign_Name (h1.aV K F R q1 λu aC ao aQ a b c d pv bw bu=>?_) hs;exact En N hv F O a b c d pv λs' P=>P
theorem KH(ok:dG T w){o e:E}{a:Nat}{z y:Expr}{p p':Pos}(ha:a<T.nA)(h1:bO T prog w A X env nm e y)(h2:bO T prog w A X env nm o z):iW T prog w A X env nm (.dW o a e) (.Assign [.Attribute z (T.an a) p] y p'):=by intro ls σ s ρ L fl bo aN K F O R q;refine aF q λv aj q1 q=>?_;refine aF q λov aM q2 q=>?_;refine aF q λv' bJ q3 q=>?_;refine aL q λhO q4 q=>?_;exists q;refine plainObj_wpAny_Assign_Attribute (h1.aV K F R q1 λu aC ao aQ a b c d pv bw bu=>h2.aV bw bu c q2 λou bG aZ eM a' b' c' d' po ip j8=>?_) (zJ _);obtain⟨cV,lX,a3,b3,R3,p3⟩:=GY c' (cv.mono a'.bB b' pv) q3;refine G0 ok (ip.mono a3) R3 (cv.mono a3.bB b3 po) p3 q4 ha λs' P=>?_;obtain⟨iP,zG,a4,b4,R4,d4,_⟩:=P;exact .quiet (((a.trans a').trans a3).trans a4) (((b.trans b').trans b3).trans b4) R4 ((d.trans d').trans d4) F O .next
theorem KI(hP:T.P=w.params)(hu:A.units+100<cLine){o i e:E}{z j y:Expr}{p p':Pos}(h1:bO T prog w A X env nm e y)(h2:bO T prog w A X env nm o z)(h3:bO T prog w A X env nm i j):iW T prog w A X env nm (.ie o i e) (.Assign [.Subscript z j p] y p'):=by
 intro ls σ s ρ L fl bo aN K F O R q;refine aF q λv aj q1 q=>?_;refine aF q λov aM q2 q=>?_;refine aF q λkv bJ q3 q=>?_;cases kv<;>first|change q|skip
 rename_i k;refine aF q λx hO q4 q=>?_;refine aL q λHq q5 q=>?_;exists q;refine wpAny_Assign_Subscript (h1.aV K F R q1 λu aC ao aQ a b c d pv bw bu=>h2.aV bw bu c q2 λou bG aZ eM a' b' c' d' po ip j8=>h3.aV ip j8 c' q3 λiu fH cV lX AZ A0 Q_ Mm pk Kl qo=>?_) (El _);obtain⟨iP,a4,R4,p4⟩:=iH Q_ (cv.mono (a'.bB.trans AZ.bB) (b'.trans A0) pv) q4;refine QK R4 hP hu (cv.mono (AZ.bB.trans a4.bB) A0 po) (VR.mono a4.bB pk) p4 q5 λs' P=>?_;obtain⟨uu,Hr,a5,b5,R5,d5,_⟩:=P;exact .quiet ((((a.trans a').trans AZ).trans a4).trans a5) (((b.trans b').trans A0).trans b5) R5 (((d.trans d').trans Mm).trans d5) F O .next
theorem KJ(hP:T.P=w.params)(hu:A.units+100<cLine){o i:E}{z j:Expr}{p p':Pos}(h2:bO T prog w A X env nm o z)(h3:bO T prog w A X env nm i j):iW T prog w A X env nm (.sY o i) (.Delete [.Subscript z j p] p'):=by
 intro ls σ s ρ L fl bo aN K F O R q;refine aF q λov aM q2 q=>?_;refine aF q λkv bJ q3 q=>?_;cases kv<;>first|change q|skip
 rename_i k;refine aL q λHq q5 q=>?_;exists q;refine wpAny_Delete (wpAny_deleteEach_cons ?_);rw[arm_delete_Subscript];refine wpAny_bind (h2.aV K F R q2 λou bG aZ eM a' b' c' d' po ip j8=>wpAny_bind (wpAny_holding (h3.aV ip j8 c' q3 λiu fH cV lX AZ A0 Q_ Mm pk Kl qo=>wpAny_bind (wpAny_standAt (wpAny_bind (wpAny_holding ?_))))));refine QL Q_ hP hu (cv.mono AZ.bB A0 po) pk q5 λs' P=>wpAny_release (wpAny_deleteEach_nil ?_);obtain⟨uu,Hr,a5,b5,R5,d5,_⟩:=P;exact .quiet ((a'.trans AZ).trans a5) ((b'.trans A0).trans b5) R5 ((d'.trans Mm).trans d5) F O .next
theorem Eo{E:Value->Shared->Prop}{op:mU}(hop:G6 op=true){x y z:Int}{t u:Tok}(q:arith op x y=some z){Q:Value->Shared->Prop}(h:∀t',Q (.int z t') {s with toks:=s.toks+1}): ~~~(inplaceOp (QG op) (.int x t) (.int y u)) Q E s:=by
 cases op<;>first|change hop|skip
 ·unfold arith at q;cases q;exact PySem.AutoIntOps.iadd_0 (h _)
 ·unfold arith at q;cases q;exact PySem.AutoIntOps.isub_0 (h _)
theorem KL(ok:dG T w){o e:E}{a:Nat}{op:mU}{z y:Expr}{p p':Pos}(hop:G6 op=true)(ha:a<T.nA)(h1:bO T prog w A X env nm e y)(h2:bO T prog w A X env nm o z):iW T prog w A X env nm (.wu o a op e) (.AugAssign (.Attribute z (T.an a) p) (QG op) y p'):=by
 intro ls σ s ρ L fl bo aN K F O R q;refine aF q λov aj q1 qa=>?_;refine aL qa λold q2 qb=>?_;refine aF qb λv aM q3 qc=>?_;clear q qa qb;obtain⟨x,rfl⟩:∃x,old= .d (.int x):=by cases old<;>first|change qc|(rename_i d;cases d<;>first|exact⟨_,rfl⟩|change qc)
 obtain⟨y,rfl⟩:∃y,v= .d (.int y):=by cases v<;>first|change qc|(rename_i d;cases d<;>first|exact⟨_,rfl⟩|change qc)
 refine aL qc λzz q4 q=>?_;refine aL q λbJ q5 q=>?_;exists q;refine wpAny_AugAssign_AttributeAny (h2.aV K F R q1 λou aC ao aQ a1 b1 c1 d1 po bw bu=>?_);refine GZ ok bw c1 po q2 ha λuo t pold=>?_;refine h1.aV (s:={aC with toks:=t}) bw bu c1 q3 λu bG aZ eM a2 b2 c2 d2 pv ip j8=>?_;obtain⟨to,zq0⟩:=bV (cv.mono a2.bB b2 pold);rw[zq0];obtain⟨tv,zq2⟩:=bV pv;rw[zq2];refine Eo hop q4 λt'=>?_;refine G0 (s:={bG with toks:=bG.toks+1}) ok ip c2 (cv.mono a2.bB b2 po) j5 q5 ha λs' P=>?_;obtain⟨iP,zG,a4,b4,R4,d4,_⟩:=P;exact .quiet ((a1.trans a2).trans a4) ((b1.trans b2).trans b4) R4 (((d1.trans ⟨_,_,rfl⟩).trans d2).trans ((cS.mk _ _ _).trans d4)) F O .next
end
section
variable(T:bk)(prog:Program)(w:World)(A:Around)(env:Env)(nm:List Str)
def Bb(put:D->Ls->Option Ls)(t:Expr):Prop:=∀(s:Shared) (ρ:bU) (L:Lo) (σ:PS) (ls:Ls) (x:D) (u:Value) (bz:Ls),cL T ρ L env nm ls->dR ρ env->Rep T ρ L σ s.heap->VR T.P T.cl ρ x u->put x ls=some bz->
 ∀(Q:Unit->Shared->Prop) (E:Value->Shared->Prop),(∀s' aJ,jD env ρ aJ->Rep T aJ L σ s'.heap->cS s s'->cL T aJ L env nm bz->dR aJ env->Q () s')->~~~(assign t env u) Q E s
def KN(t:Expr):Prop:=∀(s:Shared) (I:Addr) (v:Value) (Q:Unit->Shared->Prop) (E:Value->Shared->Prop),(∃o,s.heap.get? I=some o/\GV o.cls=true)->Q () s->~~~(letOwnedTupleGo t (.ref I) v) Q E s
end
section
variable{T:bk}{tb:Tb}{n:Nat}{X:Cx}{env:Env}{nm:List Str}{ρ eH:bU}{L qt:Lo}{σ bJ:PS}{ls pC:Ls}{fl:Fl}
theorem KO{x:Str}{p:Pos}:KN prog w A (.Name x p):=by intro s I v Q E _ h;exact wpAny_pure h
theorem Ru{zs:List Expr}{k:Nat}{p:Pos}:KN prog w A (.Tuple zs k p):=by
 intro s I v Q E hI h;obtain⟨⟨cl,di,da,_⟩,ho,hc⟩:=hI;cases v<;>first|exact wpAny_pure h|skip
 rename_i a;refine wpAny_bind (wpAny_load ho ?_);cases cl<;>first|exact noB hc|skip
 rename_i n;cases da<;>first|exact wpAny_pure h|skip
 rename_i vs;refine wpAny_ite_false ?_ (wpAny_pure h);rw[(pY _).mp hc];rfl
theorem Hx(N:NmOk env nm){i:Nat}{x:Str}{p:Pos}(h:isVar env.scope.names nm i x=true):Bb T prog w A env nm (kf i) (.Name x p):=by intro s ρ L σ ls d u bz F O R r q Q E k;unfold kf at q;cases q;exact wpAny_assign_Name (qL F O R (v:= .d d) (N.one i x h) (j9 h) r k)
theorem zL(N:NmOk env nm){Q:Unit->Shared->Prop}{E:Value->Shared->Prop}{is:List Nat}:∀{zs:List Expr} {l:List D} {us:List Value} {s:Shared} {ρ:bU} {ls bz:Ls},mT env.scope.names nm is zs=true->cL T ρ L env nm ls->dR ρ env->Rep T ρ L σ s.heap->dB T.P T.cl ρ l us->zX is l ls=some bz->
  (∀s' aJ,jD env ρ aJ->Rep T aJ L σ s'.heap->cS s s'->cL T aJ L env nm bz->dR aJ env->Q () s')->~~~(assignInOrder ((assignEach zs env).map (·.2)) us) Q E s:=by
 induction is with
 |nil=>
  intro zs l us s ρ ls bz hm F O R r q k;rw[gy hm];cases l with
  |cons _ _=>cases q
  |nil=>
   cases q;exact wpAny_pure (k s ρ .refl R (.refl s) F O)
 |cons i is ih=>
  intro zs l us s ρ ls bz hm F O R r q k;rcases l with _|⟨d,l⟩
  ·exact noS q
  rcases us with _|⟨u,us⟩
  ·exact r.elim
  refine aB hm λc hm=>aB hm λz hm=>aw hm λh1 h2=>?_;rw[c.e,z.e];show wpAny _ A (do holding us (assign (.Name z.d.1 z.d.2) env u);assignInOrder ((assignEach c.d.2 env).map (·.2)) us) Q E s;refine wpAny_bind (wpAny_holding (wpAny_assign_Name (qL F O R (v:= .d d) (N.one i z.d.1 h1) (j9 h1) r.1 λaC ao a kY tD bu lZ=>?_)));exact ih h2 bu lZ kY (dB.mono a.bB r.2) q λs' aJ a' R' d' F' O'=>k s' aJ (a.trans a') R' (tD.trans d') F' O'
theorem Hy{ns:mD}:∀{is:List Nat} {zs:List Expr},mT ns nm is zs=true->(assignEach zs env).length=is.length/\(assignEach zs env).findIdx? (·.1)=none
 |[],zs,h=>by rw[gy h];exact⟨rfl,rfl⟩
 |i::is,zs,h=>aB h λc h=>aB h λz h=>aw h λ_ h=>by obtain⟨h1,h2⟩:=Hy h;rw[c.e,z.e];have e:assignEach (.Name z.d.1 z.d.2::c.d.2) env=(false,assign (.Name z.d.1 z.d.2) env)::assignEach c.d.2 env:=rfl;rw[e];exact⟨by simp[h1],by simp[wh,h2]⟩
theorem uv:∀{is:List Nat} {l:List D} {ls bz:Ls},zX is l ls=some bz->is.length=l.length
 |[],[],_,_,_=>rfl
 |i::is,x::xs,_,_,h=>congrArg (·+1) (uv (is:=is) (l:=xs) h)
 |[],_::_,_,_,h=>noS h
 |_::_,[],_,_,h=>noS h
theorem Bc(N:NmOk env nm)(hh:A.handled=none){is:List Nat}{zs:List Expr}{k:Nat}{p:Pos}(hm:mT env.scope.names nm is zs=true):Bb T prog w A env nm (qW is) (.Tuple zs k p):=by
 intro s ρ L σ ls d u bz F O R r q Q E kk;cases d<;>first|exact noS q|skip
 rename_i l;obtain⟨a,vs,zq71,i,rr⟩:=r;rw[zq71];obtain⟨h1,h2⟩:=Hy (env:=env) hm;have hl:=uv q;refine wpAny_assign_Tuple hh (mz (R.bB i)) (by rw[h1,hl,rr.size]) h2 λh' x=>?_;have R':=R.extBut R.new x;exact zL N hm F O R' rr q λs' aJ a' R' d' F' O'=>kk s' aJ a' R' ((cS.mk _ _ _).trans d') F' O'
theorem KP(N:NmOk env nm)(hh:A.handled=none){is:List Nat}{zs:List Expr}{k:Nat}{e:E}{y:Expr}{p p':Pos}(ht:zv y=true)(hm:mT env.scope.names nm is zs=true)(h1:bO T prog w A X env nm e y):iW T prog w A X env nm (.ki is e) (.Assign [.Tuple zs k p] y p'):=by
 intro ls σ s ρ L fl bo aN K F O R q;refine aF q λv aj q1 q=>?_;cases v<;>first|change q|skip
 rename_i v;refine aL q λbz q2 q=>?_;exists q;refine Assign_Tuple (h1.aV K F R q1 λu aC ao aQ a b c d pv bw bu=>?_) (show swapsWith y (some (.Tuple zs k p)) p'.line env=pure false from Em _) (zK ht);refine Bc N hh hm aC ao aQ aj ls v u bz bu (O.mono a) c pv q2 _ _ λs' aJ a' R' d' F' O'=>?_;exact⟨aJ,aQ,a.toF.trans a',b,R',d.trans d',F',O',.next⟩
theorem kZ{S:Addr->Prop}(F:cL T ρ L env nm ls)(O:dR ρ env)(hC:∀x,(env.cells.lookup x).isSome=true->env.kindOf x=some .cell)(h:∀a,S a->∀o,ρ a≠.aY o):∀a,S a->a≠env.locals/\∀x,env.cells.lookup x≠some a:=by intro a ha;obtain⟨o,m,h1,_⟩:=F.loc;refine⟨λz=>h a ha o (z▸h1),λx z=>?_⟩;obtain⟨c,o,v,e1,e2,_⟩:=O.all x (hC x (by rw[z];rfl));rw[e1]at z;cases z;exact h _ ha o e2
theorem cL.nW{aJ:bU}(F:cL T ρ L env nm ls)(im:bg ρ aJ)(h:∀a o,(a=env.locals\/∃x,env.cells.lookup x=some a)->ρ a= .aY o->aJ a= .aY o):cL T aJ L env nm ls:=by
 obtain⟨fn,J',Mg,⟨o,m,h1,h2,h3⟩,Mh⟩:=F;refine⟨fn,J',Mg,⟨o,m,h _ _ (.inl rfl) h1,h2,λi x v e1 e2 e3=>?_⟩,λi x v e1 e2 e3=>?_⟩
 ·obtain⟨u,p,q⟩:=h3 i x v e1 e2 e3;exact⟨u,p,cv.mono im .refl q⟩
 ·obtain⟨c,o',u,p1,p2,p3,p4⟩:=Mh i x v e1 e2 e3;exact⟨c,o',u,p1,h _ _ (.inr ⟨x,p1⟩) p2,p3,cv.mono im .refl p4⟩
theorem dR.nW{aJ:bU}(O:dR ρ env)(h:∀a o,(a=env.locals\/∃x,env.cells.lookup x=some a)->ρ a= .aY o->aJ a= .aY o):dR aJ env:=
 ⟨λx e=>by obtain⟨c,o,v,p1,p2,p3⟩:=O.all x e;exact⟨c,o,v,p1,h _ _ (.inr ⟨x,p1⟩) p2,p3⟩,O.apart,O.xm⟩
theorem At.itk{items:List D}{I c:Addr}{i:Nat}{h:Heap}(U:At T prog w A ρ items I c i h):∃o,h.get? I=some o/\GV o.cls=true:=by obtain⟨_,_,fp,St,_,_,st,dd⟩:=U;exact dd _ _ st
theorem KQ{body:Ls->PS->Option (Fl×Ls×PS)}{put:D->Ls->Option Ls}{x:D}{r:List D}{R:Fl×Ls×PS}{P:Prop}(q:dO body put (x::r) ls σ=some R)
  (k:∀bz vQ eQ aM,put x ls=some bz->body bz σ=some (vQ,eQ,aM)->(∀v,vQ= .ret v->R=(vQ,eQ,aM))->((∀v,vQ≠.ret v)->dO body put r eQ aM=some R)->P):P:=by
 refine aL q λbz h1 q=>?_;refine je q λvQ eQ aM h2 q=>?_;refine k bz vQ eQ aM h1 h2 ?_ ?_
 ·rintro v rfl;exact(fh q).symm
 ·intro h;cases vQ with
  |ret v=>exact absurd rfl (h v)
  |_=>exact q
inductive Hz (T:bk) (prog:Program) (w:World) (A:Around) (env:Env) (nm:List Str) (ρ:bU) (L:Lo) (bG:Shared) (items:List D) (I c:Addr) (lk:Lock) (S:Addr->Prop) (bd:Ls->PS->Option (Fl×Ls×PS)) (put:D->Ls->Option Ls) (R0:Fl×Ls×PS) (n:Nat) (s':Shared):Prop
 |mk (i:Nat) (bo:Ls) (aJ:bU) (L':Lo) (aN:PS) (hn:n=items.length+1-i) (hi:i<=items.length) (q:dO bd put (items.drop i) bo aN=some R0) (a:jD env ρ aJ) (b:L.le L') (R:Rep T aJ L' aN s'.heap) (d:cS bG s') (F:cL T aJ L' env nm bo) (O:dR aJ env) (U:Under T prog w A aJ L' items I c lk S i s'.heap):Hz T prog w A env nm ρ L bG items I c lk S bd put R0 n s'
theorem Ep{put:D->Ls->Option Ls}{t:Expr}{b:Ss}{body:List Stmt}{items:List D}{I c:Addr}{lk:Lock}{S:Addr->Prop}{aM:PS}{bG:Shared}{aZ:bU}
  (hC:∀x,(env.cells.lookup x).isSome=true->env.kindOf x=some .cell) (hp:Bb T prog w A env nm put t) (hg:KN prog w A t) (hb:sf T prog w A X env nm b body)
  (K:hJ T ρ) (F:cL T ρ L env nm ls) (O:dR ρ env) (le:gc ρ aZ) (gY:Rep T aZ L aM bG.heap) (hI:ρ I= .free) (hl:∀a,fO L lk=some a->∀o,ρ a≠.aY o) (Ia:∀a,S a->∀o,ρ a≠.aY o) (U:Under T prog w A aZ L items I c lk S 0 bG.heap)
  (q:dO (λl s=>execs X b l s) put items ls aM=some (fl,pC,bJ)) {Q:Flow->Shared->Prop} (k:∀f s',gJ T env nm ρ L bG fl pC (itClose bJ lk) f s'->Q f s'):
  codeAny (model prog w) A (.forLoop t (.ref I) body [] env) (λr s'=>match r with| .ok f=>Q f s'| .error e=>cameBackBy (model prog w) A env lH e s') bG:=by
 have ap:∀a,(a=env.locals\/∃x,env.cells.lookup x=some a)->¬S a:=λa h sa=>h.elim (kZ F O hC Ia a sa).1 λh=>h.elim λx h=>(kZ F O hC Ia a sa).2 x h;refine codeAny_forLoop_any (Hz T prog w A env nm ρ L bG items I c lk S (λl s=>execs X b l s) put (fl,pC,bJ)) ?_ (items.length+1)
  (.mk 0 ls aZ L aM rfl (eJ _) q le.toF .refl gY (.refl _) (F.mono le .refl) (O.mono le) U)
 clear q U gY le F O;intro n s' st;obtain⟨i,bo,aJ,L',aN,hn,hi,q,a,b,R,d,F,O,U⟩:=st;have apI:∀a,(a=env.locals\/∃x,env.cells.lookup x=some a)->a≠I:=λa h e=>ap a h (e▸U.sI);by_cases sR:i<items.length
 ·replace q:=(List.drop_eq_getElem_cons sR)▸q
  refine U.next R (mN sR) λval aC ao yd Er kY tD fq Ek=>?_;have a1:jD env ρ ao:=⟨a.bB.trans yd,λx o h1 h2 e=>Er x o (λz=>by rw[z,hI]at e;cases e) (a.aY x o h1 h2 e)⟩;have bu:=F.nW yd λa o h e=>Er a o (apI a h) e;have lZ:=O.nW λa o h e=>Er a o (apI a h) e;clear F O;refine hg aC I val _ _ Ek.at_.itk ?_;refine KQ q λbz vQ eQ hO qp qb qr qn=>?_;refine hp aC ao L' aN bo _ val bz bu lZ kY fq qp _ _ λfH cV Et ky HA qo KR=>?_;have np:∀x,S x->x≠env.locals/\∀y,env.cells.lookup y≠some x:=λx hx=>⟨λz=>ap x (.inl z) hx,λy z=>ap x (.inr ⟨y,z⟩) hx⟩;have Kt:=Ek.keep kY ky Et.bB .refl λx o hx e=>Et.aY x o (np x hx).1 (np x hx).2 e;have YV:=a1.trans Et;refine hb.aV (YV.SG K) qo KR ky qb λf Ej iP zG jF tE se x_ K₄ KU KV fr=>?_;have KW:=Kt.keep ky se jF.bB tE λx o hx e=>jF.aY x o (np x hx).1 (np x hx).2 e;have Xx:(∀v,vQ≠.ret v)->∃m,m<n/\Hz T prog w A env nm ρ L bG items I c lk S (λl s=>execs X _ l s) put (fl,pC,bJ) m Ej:=λh=>
   ⟨items.length+1-(i+1),by omega,.mk (i+1) eQ iP zG hO rfl sR (qn h) (YV.trans jF) (b.trans tE) se (((d.trans tD).trans HA).trans x_) KU KV KW⟩
  refine fr.e Xx Xx λv u e p=>?_;obtain⟨uu,HB,Rh,Xy⟩:=KW.cl.close se;have fS:∀a o,(a=env.locals\/∃x,env.cells.lookup x=some a)->iP a= .aY o->uu a= .aY o:=λa o h e=>Xy a o e λz=>ap a h (KW.sl a z);exact k _ _ (Y6 (qr _ e) ⟨uu,zG,⟨(YV.trans jF).bB.trans HB,λx o h1 h2 e=>Xy x o ((YV.trans jF).aY x o h1 h2 e) λz=>Ia x (KW.sl x z) o e⟩,b.trans tE,Rh,((d.trans tD).trans HA).trans x_,KU.nW HB fS,KV.nW fS,e▸.ret (cv.mono HB .refl p)⟩)
 ·have Xs:i=items.length:=by omega
  rw[Xs,List.drop_length]at q;refine U.last R Xs λaC ao yd Er kY tD=>wpAny_execs_nil ?_;have fS:∀a o,(a=env.locals\/∃x,env.cells.lookup x=some a)->aJ a= .aY o->ao a= .aY o:=λa o h e=>Er a o e (apI a h) λz=>ap a h (U.sl a z);exact k _ _ (someE3 q ⟨ao,L',⟨a.bB.trans yd,λx o h1 h2 e=>Er x o (a.aY x o h1 h2 e) (λz=>by rw[z,hI]at e;cases e) λz=>Ia x (U.sl x z) o e⟩,b,kY,d.trans tD,F.nW yd fS,O.nW fS,.next⟩)
end
section
variable{T:bk}{tb:Tb}{n:Nat}{X:Cx}{env:Env}{nm:List Str}
theorem HC(hP:T.P=w.params)(hh:A.handled=none)(hC:∀x,(env.cells.lookup x).isSome=true->env.kindOf x=some .cell){put:D->Ls->Option Ls}{t:Expr}{st:S}{it:E}{b:Ss}{jt:Expr}{body:List Stmt}{p:Pos}
  (hp:Bb T prog w A env nm put t) (hg:KN prog w A t) (zH:∀x,foldedSetIterable jt env x=pure x) (h1:bO T prog w A X env nm it jt) (hb:sf T prog w A X env nm b body)
  (hx:∀ls σ,exec X st ls σ=ai (cX (Uy (execs X b) put ls)) (eval X it ls σ)):iW T prog w A X env nm st (.For t jt body [] p):=by
 intro ls σ s ρ L fl bo aN K F O R q;rw[hx]at q;refine aF q λxv aj q1 q=>?_;refine je q λitems aM lk q2 q=>?_;refine je q λfl₃ pC bJ q3 q=>?_;exists q;refine wpAny_For ?_ zH;refine h1.aV K F R q1 λu aC ao aQ a b c d pv bw bu=>?_;refine mF hP hh bw c pv q2 λI cc bG aZ S le gY mG hI hS hl Ia U=>?_;exact Ep hC hp hg hb bw bu (O.mono a) le gY hI hl Ia U q3 λf s' P=>(P.from .refl .refl mG).from a.toF b d
theorem Eu{km:Ls->PS->Option (Bool×PS)}{body:Ls->PS->Option (Fl×Ls×PS)}{n:Nat}{ls:Ls}{σ:PS}{R:Fl×Ls×PS}{P:Prop}(q:jL km body n ls σ=some R)
  (k0:∀aj,km ls σ=some (false,aj)->R=(.next,ls,aj)->P) (k1:∀m aj vQ eQ aM,m<n->km ls σ=some (true,aj)->body ls aj=some (vQ,eQ,aM)->(∀v,vQ= .ret v->R=(vQ,eQ,aM))->((∀v,vQ≠.ret v)->jL km body m eQ aM=some R)->P):P:=by
 cases n with
 |zero=>exact noS q
 |succ m=>
 refine aF q λb aj h1 q=>?_;cases b with
 |false=>exact k0 _ h1 (fh q).symm
 |true=>
  refine je q λvQ eQ aM h2 q=>?_;refine k1 m aj vQ eQ aM (yD _) h1 h2 ?_ ?_
  ·rintro v rfl;exact(fh q).symm
  ·intro h;cases vQ with
   |ret v=>exact absurd rfl (h v)
   |_=>exact q
inductive Rv (T:bk) (env:Env) (nm:List Str) (ρ:bU) (L:Lo) (s:Shared) (km:Ls->PS->Option (Bool×PS)) (bd:Ls->PS->Option (Fl×Ls×PS)) (R0:Fl×Ls×PS) (n:Nat) (s':Shared):Prop
 |mk (bz:Ls) (ao:bU) (aQ:Lo) (aj:PS) (q:jL km bd n bz aj=some R0) (a:jD env ρ ao) (b:L.le aQ) (R:Rep T ao aQ aj s'.heap) (d:cS s s') (F:cL T ao aQ env nm bz) (O:dR ao env):Rv T env nm ρ L s km bd R0 n s'
theorem HD{c:E}{b:Ss}{t:Expr}{body:List Stmt}{p:Pos}(h0:j7 T prog w A X env nm c t)(hb:sf T prog w A X env nm b body):iW T prog w A X env nm (.mh c b) (.While t body [] p):=by
 intro ls σ s ρ L fl bo aN K F O R q;refine wpAny_While ?_;refine codeAny_whileLoop (Rv T env nm ρ L s (λl s=>test X c l s) (λl s=>execs X b l s) (fl,bo,aN)) ?_ X.fuel (.mk ls ρ L σ q .refl .refl R (.refl s) F O);clear q R F O;intro n s' st;obtain⟨bz,ao,aQ,aj,q,a,b,kY,d,bu,lZ⟩:=st;refine Eu q (λaM q1 e=>?_) λm aM vQ eQ bJ hm q1 q2 qr qn=>?_
 ·refine wpAny_mono (h0 _ _ _ _ _ _ _ (a.SG K) bu kY q1) (λc bG P=>?_) λ_ _ z=>SD z;obtain⟨y,aZ,eM,vV,Ew,gY,mG,_⟩:=P;exact ifF y (wpAny_execs_nil (Y6 e ⟨aZ,eM,a.trans vV.toF,b.trans Ew,gY,d.trans mG,bu.mono vV Ew,lZ.mono vV,.next⟩))
 ·refine wpAny_mono (h0 _ _ _ _ _ _ _ (a.SG K) bu kY q1) (λc bG P=>?_) λ_ _ z=>SD z;obtain⟨y,aZ,eM,vV,Ew,gY,mG,_⟩:=P;refine ifT y (hb.aV ((a.SG K).mono vV) (bu.mono vV Ew) (lZ.mono vV) gY q2 λf fH cV lX Et Xz ky HA Kl qo KR fr=>?_);have Xx:(∀v,vQ≠.ret v)->∃m,m<n/\Rv T env nm ρ L s (λl s=>test X _ l s) (λl s=>execs X _ l s) (fl,bo,aN) m fH:=λh=>
   ⟨m,hm,.mk eQ cV lX bJ (qn h) ((a.trans vV.toF).trans Et) ((b.trans Ew).trans Xz) ky ((d.trans mG).trans HA) qo KR⟩
  exact fr.e Xx Xx λv u e p=>Y6 (qr _ e) ⟨cV,lX,(a.trans vV.toF).trans Et,(b.trans Ew).trans Xz,ky,(d.trans mG).trans HA,qo,KR,e▸.ret p⟩
theorem KX{o lo:E}{z l:Expr}{p p' p'':Pos}(h2:bO T prog w A X env nm o z)(h3:bO T prog w A X env nm lo l):iW T prog w A X env nm (.yL o lo) (.Delete [.Subscript z (.Slice (some l) none none p) p'] p''):=by
 intro ls σ s ρ L fl bo aN K F O R q;refine aF q λov aM q2 q=>?_;refine aF q λkv bJ q3 qb=>?_;cases kv<;>first|change qb|skip
 rename_i k;refine aL qb λHq q5 q=>?_;exists q;refine wpAny_Delete (wpAny_deleteEach_cons ?_);rw[arm_delete_Subscript];refine wpAny_bind (h2.aV K F R q2 λou bG aZ eM a' b' c' d' po ip j8=>wpAny_bind (wpAny_holding (wpAny_Slice ?_)));refine h3.aV ip j8 c' q3 λiu fH cV lX AZ A0 Q_ Mm pk Kl qo=>?_;rw[evalPart_none];refine wpAny_pure ?_;refine wpAny_pure (wpAny_bind (wpAny_standAt (wpAny_bind (wpAny_holding ?_))));have hk:∃i,k= .int i:=by cases k<;>first|exact⟨_,rfl⟩|change q5
 obtain⟨i,rfl⟩:=hk;obtain⟨t,zq76⟩:=bV pk;rw[zq76];have R3:Rep T cV lX bJ (fH.heap.push {cls:= .type "slice",data:= .fields #[.int i t,.none,.none]}):=Q_.push _;refine Eb (s:={fH with heap:=fH.heap.push {cls:= .type "slice",data:= .fields #[.int i t,.none,.none]}}) R3 (cv.mono AZ.bB A0 po) q5 (Heap.IsSliceOf.new ..) λs' P=>wpAny_release (wpAny_deleteEach_nil ?_);obtain⟨uu,Hr,a5,b5,R5,d5,_⟩:=P;exact .quiet ((a'.trans AZ).trans a5) ((b'.trans A0).trans b5) R5 ((d'.trans Mm).trans ((cS.mk _ _ _).trans d5)) F O .next
theorem KY(hP:T.P=w.params)(hh:A.handled=none)(N:NmOk env nm)(hC:∀x,(env.cells.lookup x).isSome=true->env.kindOf x=some .cell){i:Nat}{x:Str}{XA:Pos}{elt:E}{v:Nat}{it:E}{ifs:Es}{y jt:Expr}{js:List Expr}{sc:Scope}{z:Str}{px pos p:Pos}
  (hv:isVar env.scope.names nm i x=true) (hsw:swapsWith (.ListComp y [⟨.Name z px,jt,js,0⟩] sc pos) (some (.Name x XA)) p.line env=pure true)
  (hc:rZ env.scope.names sc.names z=true) (vM:sc.kind= .function) (zH:∀x,foldedSetIterable jt env x=pure x) (h1:bO T prog w A X env nm it jt)
  (hE:∀C,bO T prog w A X (compEnvC sc (iO env sc.names []) C env) (rY nm v z) elt y) (hT:∀C,zE T prog w A X (compEnvC sc (iO env sc.names []) C env) (rY nm v z) ifs js):
  iW T prog w A X env nm (.asg i (.comp elt v it ifs)) (.Assign [.Name x XA] (.ListComp y [⟨.Name z px,jt,js,0⟩] sc pos) p):=by
 intro ls σ s ρ L fl bo aN K F O R q;refine aF q λr σr qe q=>?_;cases q;have q:=qe;refine aF q λxv aj q1 q=>?_;refine je q λitems aM lk q2 q=>?_;refine aF q λys bJ q3 q=>?_;have hf:=(fj q).1;rw[exec_Assign_Name_used _ _ _ _ hsw];refine wpAny_bind (wpAny_standAt (wpAny_bind ?_));show wpAny _ A (do let _<-comprehension (.ListComp y [⟨.Name z px,jt,js,0⟩] sc pos) sc env _ (newList []) false (PySem.eval jt env) (some (assign (.Name x XA) env))) _ _ s;refine wpAny_bind (wpAny_mono (wpAny_comprehension_free (use:=some (assign (.Name x XA) env)) (E:=lH) (Q:=λ_ s'=>gJ T env nm ρ L s .next (ls.set i (some r)) aN .next s') rfl zH (r_ (N.ok.free hc)) vM (ya hc) ?_)
  (λ_ s' hq=>wpAny_pure (wpAny_pure hq)) λ_ _ e=>e)
 refine h1.aV K F R q1 λu aC ao aQ a b c d p bw bu=>?_;refine mF hP hh bw c p q2 λI cc bG aZ S le gY mG hI hS hl Ia U=>?_;refine sd (RR:=λacc C=>compPost (model prog w) A lH (some (assign (.Name x XA) env)) (λ_ s'=>gJ T env nm ρ L s .next (ls.set i (some r)) aN .next s') acc C) bu bw le .refl gY U hI hS hl q3 hf hc vM (N.ok.free hc) hE hT ?_;intro D C s' aJ L' vs k oC mC YU l' R' d' eD rD eC nC SE Rd Ic;have lZ:=O.mono a;have YW:=kZ (S:=λx=>x=C) bu lZ hC (λ_ h o=>h▸Rd o) C rfl;have R2:Rep T (up aJ D .free) L' (itClose bJ lk) s'.heap:=R'.takes (.inr ⟨_,eD⟩) (λa o ha _ e=>e) trivial;have Xu:bg aJ (up aJ D .free):=dw λo=>by rw[eD];intro z;cases z
 obtain⟨cV,lX,a3,b3,R3,p3⟩:=jC (h':=s'.heap) (k:=k) R2 aO (λ_ _ _ _ e=>e) (R'.aY eD) (dB.mono Xu rD) q;have ES:gc ao cV:=⟨(YU.bB.trans Xu).trans a3.bB,λx o e=>a3.aY x o (by rw[a8 λ(z:x=D)=>SE o (z▸e)];exact YU.aY x o e)⟩;have eC3:=a3.aY _ _ (by rw[a8 (gA Ic)];exact eC);refine wpAny_assign_Name (qL (bu.mono ES (l'.trans b3)) (lZ.mono ES) R3 (N.one i x hv) (j9 hv) p3 λEj iP jF se x_ KU KV=>?_);have eC4:=jF.aY _ _ YW.1 YW.2 eC3;refine⟨_,uf (se.aY eC4) nC,λh' sb=>?_⟩;have R5:Rep T (up iP C .free) lX aN h':=se.takes (.inr ⟨_,eC4⟩) (λa o ha _ e=>sb.extBut a o ha e) trivial;have im5:bg iP (up iP C .free):=dw λo=>by rw[eC4];intro z;cases z
 have fS:∀a o,(a=env.locals\/∃x,env.cells.lookup x=some a)->iP a= .aY o->up iP C .free a= .aY o:=λa o h e=>by rw[a8 λ(z:a=C)=>h.elim (λh=>YW.1 (z▸h)) λh=>h.elim λx h=>YW.2 x (z▸h)];exact e
 refine⟨up iP C .free,lX,⟨((a.bB.trans ES.bB).trans jF.bB).trans im5,λx o h1 h2 e=>?_⟩,(b.trans l').trans b3,R5,(((d.trans mG).trans d').trans x_).trans ⟨_,_,rfl⟩,KU.nW im5 fS,KV.nW fS,.next⟩;rw[a8 λ(z:x=C)=>Rd o (z▸a.aY _ _ e)];exact jF.aY x o h1 h2 (ES.aY _ _ (a.aY _ _ e))
theorem zM{y:Expr}{x:Str}{p:Pos}{l:Nat}:∃b,swapsWith y (some (.Name x p)) l env=pure b:=by cases y<;>exact⟨_,rfl⟩
end
structure vW (env:Env) (nm:List Str):Prop extends NmOk env nm where
 zN:∀x,(env.cells.lookup x).isSome=true->env.kindOf x=some .cell
section
variable{T:bk}{tb:Tb}{n:Nat}{X:Cx}{env:Env}{nm:List Str}
theorem Rw(G:Ctx T tb prog w A n X)(N:vW env nm){i:Nat}{e:E}{z:Str}{y:Expr}{p p':Pos}(hv:isVar env.scope.names nm i z=true)(hm:mE tb env.scope.names nm e y=true)(hn:(r5 y||cC (λ_=>true) (Mj e))=true):iW T prog w A X env nm (.asg i e) (.Assign [.Name z p] y p'):=by
 have h1:=(ba G e N.ok hm).ev;obtain⟨b,hb⟩:=zM (y:=y) (x:=z) (p:=p) (l:=p'.line) (env:=env);cases b with
 |false=>exact Ba N.toNmOk hv h1 hb
 |true=>
  refine qm hn (λh=>Ba N.toNmOk hv h1 (yc h _ _)) λh=>aB h λc _=>?_;clear h1;rw[c.e]at hm⊢;refine aB hm λd h=>aB h λg h=>aB h λx h=>aw h λha h=>aw h λh0 h=>aw h λhc h=>aw h λzH h=>aw h λh3 h=>aw h λh4 h5=>?_;have e1:=yb g.d x.e (of_decide_eq_true ha);rw[d.e,g.e,e1]at hb⊢;have hk:=cj h0;have nE:∀C,(compEnvC d.d.2.2.1 (iO env d.d.2.2.1.names []) C env).scope.names=rel env.scope.names d.d.2.2.1.names:=λC=>gQ N.ok.kind;exact KY G.ok.P G.rm.handled N.toNmOk N.zN hv hb hc hk (jc zH) (ba G _ N.ok h3).ev (λC=>(ba G _ (N.ok.comp hc hk) (by rw[nE];exact h4)).ev) (λC=>(fK G _ (N.ok.comp hc hk) (by rw[nE];exact h5)).ft)
variable(G:Ctx T tb prog w A n X)(N:vW env nm)
include G N
mutual
theorem Rx:∀(st:S) {x:Stmt},mS tb env.scope.names nm st x=true->iW T prog w A X env nm st x
 | .expr e,x,h=>aB h λd h=>aw h λh0 h=>by rw[d.e];exact KG N.ok h0 (ba G e N.ok h).ev
 | .asg i e,x,h=>aB h λd h=>aB h λt h=>aB h λz h=>aw h λh0 h=>aw h λh1 h2=>by rw[d.e,t.e,z.e];exact Rw G N h0 h1 h2
 | .dW o a e,x,h=>aB h λd h=>aB h λt h=>aB h λz h=>aw h λh0 h=>aw h λh1 h=>aw h λh2 h3=>by rw[d.e,t.e,z.e,cj h0,G.lk.an];exact KH G.ok (by rw[<-G.lk.nA];exact Nat.ble_eq.mp h1) (ba G e N.ok h3).ev (ba G o N.ok h2).ev
 | .ie o i e,x,h=>aB h λd h=>aB h λt h=>aB h λz h=>aw h λ_ h=>aw h λh1 h=>aw h λh2 h3=>by rw[d.e,t.e,z.e];exact KI G.ok.P G.rm.u (ba G e N.ok h3).ev (ba G o N.ok h1).ev (ba G i N.ok h2).ev
 | .ki is e,x,h=>aB h λd h=>aB h λt h=>aB h λz h=>aw h λh0 h=>aw h λh1 h2=>by rw[d.e,t.e,z.e];exact KP N.toNmOk G.rm.handled h0 h1 (ba G e N.ok h2).ev
 | .wu o a op e,x,h=>aB h λd h=>aB h λz h=>aw h λh0 h=>aw h λh1 h=>aw h λh2 h=>aw h λU5 h=>aw h λh3 h4=>by rw[d.e,z.e,cj h0,G5 h2,G.lk.an];exact KL G.ok U5 (by rw[<-G.lk.nA];exact Nat.ble_eq.mp h1) (ba G e N.ok h4).ev (ba G o N.ok h3).ev
 | .ite c a b,x,h=>aB h λd h=>aw h λh0 h=>aw h λh1 h2=>by rw[d.e];exact Rr (ba G c N.ok h0).ts (mH a h1) (mH b h2)
 | .gr i it b,x,h=>aB h λd h=>aB h λz h=>aw h λhk h=>aw h λhs h=>aw h λh0 h=>aw h λh1 h2=>by rw[d.e,z.e,gy hk];exact HC G.ok.P G.rm.handled N.zN (Hx N.toNmOk h0) KO (jc hs) (ba G it N.ok h1).ev (mH b h2) (λls σ=>rfl)
 | .yJ is it b,x,h=>aB h λd h=>aB h λz h=>aw h λhk h=>aw h λhs h=>aw h λh0 h=>aw h λh1 h2=>by rw[d.e,z.e,gy hk];exact HC G.ok.P G.rm.handled N.zN (Bc N.toNmOk G.rm.handled h0) Ru (jc hs) (ba G it N.ok h1).ev (mH b h2) (λls σ=>rfl)
 | .mh c b,x,h=>aB h λd h=>aw h λhk h=>aw h λh1 h2=>by rw[d.e,gy hk];exact HD (ba G c N.ok h1).ts (mH b h2)
 | .ret e,x,h=>aB h λd h=>by rw[d.e];exact qm h (λh=>aw h λh0 h=>by rw[kW h0];exact KD h) λh=>aB h λy h=>by rw[y.e];exact Rq (ba G e N.ok h).ev
 | .pass,x,h=>aB h λd h=>by rw[d.e];exact KA
 | .cont,x,h=>aB h λd h=>by rw[d.e];exact KC
 | .sY o i,x,h=>aB h λd h=>aB h λt h=>aB h λz h=>aw h λ_ h=>aw h λh1 h2=>by rw[d.e,t.e,z.e];exact KJ G.ok.P G.rm.u (ba G o N.ok h1).ev (ba G i N.ok h2).ev
 | .yL o lo,x,h=>aB h λd h=>aB h λt h=>aB h λz h=>aB h λs h=>aB h λl h=>aw h λh0 h=>aw h λh1 h=>aw h λh2 h3=>by rw[d.e,t.e,z.e,s.e,l.e,kW h0,kW h1];exact KX (ba G o N.ok h2).ev (ba G lo N.ok h3).ev
 | .bad,x,h=>Ro
theorem mH:∀(st:Ss) {xs:List Stmt},Kb tb env.scope.names nm st xs=true->sf T prog w A X env nm st xs
 | .nil,xs,h=>by rw[gy h];exact Rm
 | .cons st r,xs,h=>aB h λd h=>aw h λh1 h2=>by rw[d.e];exact Kz (Rx st h1) (mH r h2)
end
end
def posOf(n:Nat):List Nat->Nat
 |[]=>0
 |m::r=>if n=m then 0 else posOf n r+1
theorem any_beq{n:Nat}{l:List Nat}:(l.any λm=>Nat.beq n m)=true<->n∈l:=by
 rw[uA];constructor
 ·rintro⟨m,h1,h2⟩;rw[kh h2];exact h1
 ·intro h;exact⟨n,h,Nat.beq_refl n⟩
theorem Bd:∀{l:List Nat} {k n:Nat},distinct l=true->l[k]?=some n->posOf n l=k
 |[],_,_,_,h=>by simp at h
 |m::r,0,n,_,h=>by simp only[fw,sW,getElem?_pos,uE,nZ]at h;exact if_pos h.symm
 |m::r,k+1,n,hd,h=>by dsimp only[distinct]at hd;rw[bx]at hd;simp only[qN]at h;have hm:=qO h;exact(if_neg (by intro e;subst e;rw[any_beq.mpr hm]at hd;exact absurd hd.1 ∅)).trans (congrArg (·+1) (Bd hd.2 h))
theorem Be:∀{l:List Nat} {n:Nat},n∈l->l[posOf n l]?=some n
 |[],_,h=>by cases h
 |m::r,n,h=>by
  show(m::r)[if n=m then 0 else posOf n r+1]?=_;by_cases e:n=m
  ·rw[if_pos e];exact congrArg some e.symm
  ·rw[if_neg e];rcases dJ.mp h with h|h
   ·exact absurd h e
   ·simp only[qN];exact Be h
theorem mI:∀{l:List Nat} {tm ts:List TO},wx tm l=some ts->ts.length=l.length/\∀(k n:Nat),l[k]?=some n->∃t,ts[k]?=some t/\tm[n]?=some t/\t≠.dead
 |[],tm,ts,h=>by have h:some []=some ts:=h;cases h;exact⟨rfl,λk n e=>by simp at e⟩
 |m::r,tm,ts,h=>by
  obtain⟨t,q2,h⟩:=gK h;obtain⟨nX,q1,h⟩:=gK h
  ·have hn:t≠.dead:=λz=>by subst z;cases h
   obtain rfl:ts=t::nX:=by cases t<;>cases h<;>rfl
   obtain⟨h1,h2⟩:=mI q1;refine⟨by simp[h1],λk n e=>?_⟩;cases k with
   |zero=>
    simp only[fw,sW,getElem?_pos,uE,nZ]at e;subst e;exact⟨t,rfl,q2,hn⟩
   |succ k=>
    simp only[qN]at e⊢;exact h2 k n e
theorem Ex{l:List Nat}:∀{tm iq ts:List TO},distinct l=true->E9 tm l ts=some iq->iq.length=tm.length/\l.length=ts.length/\(∀(k n:Nat) t,l[k]?=some n->ts[k]?=some t->n<tm.length->iq[n]?=some t)/\∀n,n∉l->iq[n]?=tm[n]?:=by
 induction l with
 |nil=>
  intro tm iq ts _ h;rcases ts with _|⟨t,ts⟩;rotate_left
  ·exact noS h
  have h:some tm=some iq:=h;cases h;exact⟨rfl,rfl,λk n t e=>by simp at e,λn _=>rfl⟩
 |cons m r ih=>
  intro tm iq ts hd h;rcases ts with _|⟨t,ts⟩
  ·exact noS h
  dsimp only[distinct]at hd;rw[bx]at hd;obtain⟨h1,h2,h3,h4⟩:=ih hd.2 h
  replace h1:=gq▸h1
  have hm:m∉r:=λz=>by rw[any_beq.mpr z]at hd;exact absurd hd.1 ∅
  refine⟨h1,by simp[h2],λk n t' e1 e2 hl=>?_,λn hn=>?_⟩
  ·cases k with
   |zero=>
    simp only[fw,sW,getElem?_pos,uE,nZ]at e1 e2;subst e1;subst e2;rw[h4 m hm,pQ hl]
   |succ k=>
    simp only[qN]at e1 e2;exact h3 k n t' e1 e2 (by rw[gq];exact hl)
  ·rw[h4 n λz=>hn (.tail _ z),bq λ(z:m=n)=>hn (z▸.head _)]
def k_(ρ:bU)(h:Heap)(l:List Nat):bU:=λa=>match ρ a with
 | .own (.t n)=>if n∈l then .own (.t (posOf n l))else match h.get? a with
  |some o=> .aY o
  |none=> .free
 |r=>r
def YX(L:Lo)(l:List Nat):Lo:=⟨L.p,L.d,λk=>L.t ((l[k]?).getD 0),L.np,l.length⟩
def lb(ρ aJ:bU)(l:List Nat):bU:=λa=>match ρ a with
 | .own (.t n)=>if n∈l then(match aJ a with
   | .own (.t _)=> .own (.t n)
   |r=>r)else .own (.t n)
 |_=>match aJ a with
  | .own (.t _)=> .free
  |r=>r
section
variable{T:bk}{ρ aJ:bU}{L L':Lo}{σ:PS}{h h':Heap}{l:List Nat}{ts:List TO}
theorem lg:gc ρ (k_ ρ h l):=⟨λa o e=>by unfold k_;rw[e],λa o e=>by unfold k_;rw[e]⟩
theorem Ey{a:Addr}{g:Tag}(hg:∀n,g≠.t n)(e:ρ a= .own g):k_ ρ h l a= .own g:=by unfold k_;rw[e];cases g<;>first|rfl|exact(hg _ rfl).elim
theorem my.to(k:bg ρ aJ)(hp:L'.p=L.p)(hn:L.np<=L'.np):∀{fs:List (Nat×PV)} {es:List DictEntry},my T ρ L fs es->my T aJ L' fs es
 |[],[],_=>trivial
 |(a,x)::r,e::t,h=>by
  refine⟨⟨h.1.1,h.1.2.1,?_,h.1.2.2.2⟩,my.to k hp hn h.2⟩;have h1:=h.1.2.2.1;have h2:=h.1.2.2.2;cases x with
  |d x=>exact VR.mono k h1
  |ax n=>exact⟨pW h1.1 hn,by rw[hp];exact h1.2⟩
  |aI n=>cases h2
 |[],_::_,h=>by exact h.elim
 |(_,_)::_,[],h=>by exact h.elim
theorem o9.to{n:Nat}(k:bg ρ aJ)(hp:L'.p=L.p)(hd:L'.d=L.d)(hn:L.np<=L'.np)(w:∀a g,(g= .p n\/g= .d n)->ρ a= .own g->aJ a= .own g){m:MO}(x:o9 T ρ L h n m):o9 T aJ L' h n m:=by
 cases m with
 |list _=>obtain⟨a,vs,i,b,c⟩:=x;exact⟨by rw[hp];exact w _ _ (.inl rfl) a,vs,i,by rw[hp];exact b,dB.mono k c⟩
 |dict _=>obtain⟨a,z,vs,i,b,c⟩:=x;exact⟨by rw[hp];exact w _ _ (.inl rfl) a,by rw[hp];exact z,vs,i,by rw[hp];exact b,gb.mono k c⟩
 |inst C fs=>obtain⟨a,a',b,es,i,b',c⟩:=x;exact⟨by rw[hp];exact w _ _ (.inl rfl) a,by rw[hd];exact w _ _ (.inr rfl) a',by rw[hp,hd];exact b,es,i,by rw[hd];exact b',c.to k hp hn⟩
 |dead=>exact trivial
theorem o_.to{n m:Nat}(k:bg ρ aJ)(ht:L'.t m=L.t n)(w:ρ (L.t n)= .own (.t n)->aJ (L.t n)= .own (.t m)){x:TO}(y:o_ T ρ L h n x):o_ T aJ L' h m x:=by
 cases x with
 |list _=>obtain⟨a,vs,i,b,c⟩:=y;exact⟨by rw[ht];exact w a,vs,i,by rw[ht];exact b,dB.mono k c⟩
 |dict _=>obtain⟨a,z,vs,i,b,c⟩:=y;exact⟨by rw[ht];exact w a,by rw[ht];exact z,vs,i,by rw[ht];exact b,gb.mono k c⟩
 |dead=>exact trivial
theorem o_.own{n:Nat}{x:TO}(hx:x≠.dead)(A:o_ T ρ L h n x):ρ (L.t n)= .own (.t n)/\∃o,h.get? (L.t n)=some o:=by
 cases x with
 |list l=>obtain⟨a,vs,i,b,c⟩:=A;exact⟨a,_,b⟩
 |dict l=>obtain⟨a,z,vs,i,b,c⟩:=A;exact⟨a,_,b⟩
 |dead=>exact absurd rfl hx
theorem call_in(R:Rep T ρ L σ h)(hd:distinct l=true)(hp:wx σ.tm l=some ts):Rep T (k_ ρ h l) (YX L l) ⟨σ.pm,ts⟩ h:=by
 obtain⟨p1,p2⟩:=mI hp;refine⟨R.np,p1.symm,λa=>?_,λn m e=>o9.to (L:=L) (L':=YX L l) lg.bB rfl rfl (dA _) (λa g hg q=>Ey (by rcases hg with rfl|rfl<;>(intro n z;cases z)) q) (R.ax n m e),λk t e=>?_⟩
 ·have:=R.role a;unfold k_;split
  ·rename_i n q;rw[q]at this;split
   ·exact this
   ·obtain⟨o,ho⟩:=this;rw[ho];exact ho
  ·exact this
 ·have hk:k<l.length:=by rw[<-p1];exact br e
  have hl:=mN hk;obtain⟨t',e1,e2,e3⟩:=p2 k _ hl;have e:ts[k]?=some t:=e;rw[e]at e1;cases e1;refine(R.aI _ _ e2).to lg.bB (by show L.t ((l[k]?).getD 0)=_;rw[hl];rfl) λq=>?_;unfold k_;rw[q];dsimp only;rw[if_pos (qO hl),Bd hd hl]
theorem KZ{aJ:bU}{L':Lo}(k:bg ρ aJ)(hp:L'.p=L.p)(hn:L'.np=L.np):∀{args:List PV} {vals:List Value} {j:Nat},gG T ρ L args vals->(∀i n,(eY args j).2[i]?=some n->L'.t (j+i)=L.t n)->j+(eY args j).2.length<=L'.nt->gG T aJ L' (eY args j).1 vals:=by
 intro args;induction args with
 |nil=>
  intro vals j h _ _;cases vals with
  |nil=>trivial
  |cons _ _=>exact h.elim
 |cons a r ih=>
  intro vals j h ht hl;cases vals with
  |nil=>exact h.elim
  |cons v t=>
   cases a with
   |d x=>exact⟨VR.mono k h.1,ih h.2 ht hl⟩
   |ax n=>exact⟨⟨by rw[hn];exact h.1.1,by rw[hp];exact h.1.2⟩,ih h.2 ht hl⟩
   |aI n=>
    have hl:j+((eY r (j+1)).2.length+1)<=L'.nt:=hl;have h0:L'.t j=L.t n:=ht 0 n rfl;refine⟨⟨pW (Nat.lt_add_of_pos_right (Nat.succ_pos _)) hl,by rw[h0];exact h.1.2⟩,ih h.2 (λi m e=>?_) (od3 hl)⟩;have:=ht (i+1) m e;rw[<-this,uB];rfl
theorem HE(R:Rep T ρ L σ h)(hd:distinct l=true)(hp:wx σ.tm l=some ts){aA:List MO}{nX Ie iq:List TO}(le:gc (k_ ρ h l) aJ)(ll:(YX L l).le L')(R':Rep T aJ L' ⟨aA,Ie⟩ h')(ht:Ie.take ts.length=nX)(rE:E9 σ.tm l nX=some iq):
  ∃YY Lf,gc ρ YY/\L.le Lf/\Rep T YY Lf ⟨aA,iq⟩ h'/\∀v u,Qy v=true->cv T aJ L' v u->cv T YY Lf v u:=by
 obtain⟨p1,p2⟩:=mI hp;obtain⟨u1,u2,u3,u4⟩:=Ex hd rE;have Hj:=(lg (ρ:=ρ) (h:=h) (l:=l)).trans le;have leF:gc ρ (lb ρ aJ l):=⟨λa o e=>by unfold lb;rw[e];dsimp only;rw[Hj.bB _ _ e],λa o e=>by unfold lb;rw[e];dsimp only;rw[Hj.aY _ _ e]⟩;have QH:∀a n,ρ a= .own (.t n)->n∉l->∃o,h.get? a=some o/\aJ a= .aY o/\h'.get? a=some o:=λa n e hn=>by
  have:=R.role a;rw[e]at this;obtain⟨o,ho⟩:=this;have e1:k_ ρ h l a= .aY o:=by unfold k_;rw[e];dsimp only;rw[if_neg hn,ho]
  have e2:=le.aY _ _ e1;exact⟨o,ho,e2,R'.aY e2⟩
 have imF:bg aJ (lb ρ aJ l):=λa o e=>by
  unfold lb;split
  ·rename_i n q;split
   ·rw[e]
   ·rename_i hn;obtain⟨o',_,e2,_⟩:=QH a n q hn;rw[e2]at e;cases e
  ·rw[e]
 have perF:∀a g,(∀n,g≠.t n)->aJ a= .own g->lb ρ aJ l a= .own g:=λa g hg e=>by
  unfold lb;split
  ·rename_i n q;split
   ·rw[e];cases g<;>first|rfl|exact(hg _ rfl).elim
   ·rename_i hn;obtain⟨o',_,e2,_⟩:=QH a n q hn;rw[e2]at e;cases e
  ·rw[e];cases g<;>first|rfl|exact(hg _ rfl).elim
 refine⟨lb ρ aJ l,⟨L'.p,L'.d,L.t,L'.np,L.nt⟩,leF,⟨ll.np,dA _,ll.p,ll.d,λ_ _=>rfl⟩,⟨R'.np,by show L.nt=iq.length;rw[u1,R.nt],λa=>?_,λn m e=>o9.to (L:=L') (L':=⟨L'.p,L'.d,L.t,L'.np,L.nt⟩) imF rfl rfl (dA _) (λa g hg q=>perF a g (by rcases hg with rfl|rfl<;>(intro n z;cases z)) q) (R'.ax n m e),λn t e=>?_⟩,λv u hv p=>?_⟩
 ·have r':=R'.role a;unfold lb;split
  ·rename_i n q;split
   ·split
    ·rename_i q';rw[q']at r';exact r'
    ·exact r'
   ·rename_i hn;obtain⟨o,_,_,e3⟩:=QH a n q hn;exact⟨o,e3⟩
  ·split
   ·trivial
   ·exact r'
 ·by_cases hn:n∈l
  ·have hk:=Be hn;obtain⟨t0,e1,e2,e3⟩:=p2 _ _ hk;have sR:posOf n l<nX.length:=by rw[<-u2];exact br hk
   have e4:=mN sR;have e5:=u3 _ _ _ hk e4 (br e2);have e:iq[n]?=some t:=e;rw[e]at e5;have et:=fh e5;rw[<-et]at e4;have hE:Ie[posOf n l]?=some t:=by rw[<-ht,List.getElem?_take]at e4;split at e4<;>first|exact e4|cases e4
   have hnt:=br hk;have lt:L'.t (posOf n l)=L.t n:=by rw[ll.t _ hnt];show L.t ((l[posOf n l]?).getD 0)=_;rw[hk];rfl
   have own:=(R.aI _ _ e2).own e3;refine(R'.aI _ _ hE).to imF lt.symm λq=>?_;rw[lt]at q⊢;unfold lb;rw[own.1];dsimp only;rw[if_pos hn,q]
  ·have e:iq[n]?=some t:=e
   replace e:=(u4 n hn)▸e
   have A:=R.aI _ _ e;by_cases hx:t= .dead
   ·subst hx;trivial
   ·obtain⟨o1,o,ho⟩:=A.own hx;obtain⟨o',g1,g2,g3⟩:=QH _ _ o1 hn;have A':=A.to leF.bB rfl λ_=>by unfold lb;rw[o1];dsimp only;rw[if_neg hn]
    cases t with
    |list l=>obtain⟨a,vs,i,b,c⟩:=A';exact⟨a,vs,i,by have b:h.get? (L.t n)=_:=b;show h'.get? (L.t n)=_;rw[g1]at b;rw[g3];exact b,c⟩
    |dict l=>obtain⟨a,z,vs,i,b,c⟩:=A';exact⟨a,z,vs,i,by have b:h.get? (L.t n)=_:=b;show h'.get? (L.t n)=_;rw[g1]at b;rw[g3];exact b,c⟩
    |dead=>trivial
 ·cases v with
  |d x=>exact VR.mono imF p
  |ax n=>exact p
  |aI n=>cases hv
end
inductive zO (T:bk) (ρ:bU) (L:Lo) (s:Shared) (k:Nat) (v:PV) (aA:List MO) (nX:List TO) (u:Value) (s':Shared):Prop
 |mk (aJ:bU) (L':Lo) (Ie:List TO) (a:gc ρ aJ) (b:L.le L') (c:Rep T aJ L' ⟨aA,Ie⟩ s'.heap) (d:cS s s') (e:Ie.take k=nX) (p:cv T aJ L' v u):zO T ρ L s k v aA nX u s'
def zP(T:bk)(prog:Program)(w:World)(n:Nat)(sp:Spec)(f:Value):Prop:=
 ∀(A:Around) (s:Shared) (ρ:bU) (L:Lo) (pm:List MO) (ts:List TO) (args:List PV) (vals:List Value) (v:PV) (aA:List MO) (nX:List TO),lY n A->hJ T ρ->Rep T ρ L ⟨pm,ts⟩ s.heap->gG T ρ L args vals->sp args pm ts=some (v,aA,nX)->Qy v=true->
  ~~~(call f vals) (zO T ρ L s ts.length v aA nX) (λ_ _=>False) s
theorem uw{T:bk}{prog:Program}{w:World}{n:Nat}{sp:Spec}{f:Value}(H:zP T prog w n sp f):zw T prog w n sp f:=by
 intro A s ρ L σ args vals v aN rm K R p q;refine dN q λhd q=>?_;refine aL q λts hp q=>?_;refine je q λkx aA nX hs q=>?_;have fin:Qy kx=true->∀iq,E9 σ.tm (eY args 0).2 nX=some iq->v=kx->aN=⟨aA,iq⟩->~~~(call f vals) (λu s'=>jZ T ρ L s v aN u s') (λ_ _=>False) s:=by rintro hv iq rE rfl rfl;have Rc:=call_in R hd hp;refine wpAny_mono (H A s _ _ σ.pm ts _ vals v aA nX rm (K.mono lg) Rc (KZ (L:=L) (L':=YX L (eY args 0).2) lg.bB rfl rfl p (λi n e=>by show L.t (((eY args 0).2[0+i]?).getD 0)=_;rw[Nat.zero_add,e];rfl) (by show 0+_<=(eY args 0).2.length;omega)) hs hv) (λu s' P=>?_) λ_ _ z=>z;obtain⟨aJ,L',Ie,a,b,c,d,e,g⟩:=P;obtain⟨YY,Lf,a',b',c',k⟩:=HE R hd hp a b c e rE;exact .now a' b' c' d (k v u hv g)
 cases kx with
 |aI n=>cases q
 |d x=>
  obtain⟨iq,rE,q⟩:=gK q;cases q;exact fin rfl _ rE rfl rfl
 |ax n=>
  obtain⟨iq,rE,q⟩:=gK q;cases q;exact fin rfl _ rE rfl rfl
theorem mJ:∀{names:List Str} {vals:List Value} {i:Nat} {x:Str} {u:Value},names.Nodup->names[i]?=some x->vals[i]?=some u->(names.zip vals).lookup x=some u
 |[],_,_,_,_,_,h,_=>by simp at h
 |n::r,[],_,_,_,_,_,h=>by simp at h
 |n::r,v::t,0,x,u,_,h1,h2=>by simp only[fw,sW,getElem?_pos,uE,nZ]at h1 h2;subst h1;subst h2;simp[sS,oe]
 |n::r,v::t,i+1,x,u,hn,h1,h2=>by
  simp only[qN]at h1 h2;obtain⟨h3,h4⟩:=n_.mp hn;have hx:(x==n)=false:=by have:x≠n:=λe=>h3 (e▸qO h1);simpa using this
  rw[sS,oe,hx];exact mJ h4 h1 h2
theorem ye{names:List Str}{vals:List Value}{x:Str}(hl:vals.length=names.length)(hn:names.Nodup)(h:x∈names):((names.zip vals).lookup x).isSome=true:=by
 obtain⟨i,hi⟩:=List.getElem?_of_mem h;have YS:i<vals.length:=by rw[hl];exact br hi
 rw[mJ hn hi (mN YS)];rfl
theorem Ez:∀{names:List Str} {vals:List Value},vals.length=names.length->names.Nodup->(names.filterMap λn=>((names.zip vals).lookup n).map (n,·))=names.zip vals:=by
 have go:∀(names:List Str) (vals:List Value) (N:List Str) (V:List Value),vals.length=names.length->(∀(i:Nat) (x:Str) (u:Value),names[i]?=some x->vals[i]?=some u->(N.zip V).lookup x=some u)->
   (names.filterMap λn=>((N.zip V).lookup n).map (n,·))=names.zip vals:=by
  intro names;induction names with
  |nil=>intro vals N V _ _;simp
  |cons n r ih=>
   intro vals N V hl h;cases vals with
   |nil=>simp at hl
   |cons v t=>
    have h0:=h 0 n v (rfl) (rfl);rw[List.filterMap_cons,h0];simp only[Option.map_some,sS];rw[ih t N V (by simpa using hl) λi x u e1 e2=>h (i+1) x u (by simpa using e1) (by simpa using e2)]
 intro names vals hl hn;exact go names vals names vals hl λi x u e1 e2=>mJ hn e1 e2
theorem yf{α β:Type}{M:Model}{A:Around}{E:Value->Shared->Prop}{s:Shared}{f:α->β->Sem (ForInStep β)}{b:β}{Q:β->Shared->Prop}(h:Q b s):∀{l:List α},(∀x∈l,f x b=pure (.yield b))->wpAny M A (forIn l b f) Q E s
 |[],_=>by rw[List.forIn_nil];exact wpAny_pure h
 |x::r,hf=>by rw[List.forIn_cons,hf x (.head _)];exact wpAny_bind (wpAny_pure (yf h λy hy=>hf y (.tail _ hy)))
theorem HF{α β:Type}{M:Model}{A:Around}{E:Value->Shared->Prop}{s:Shared}{f:α->β->Sem (ForInStep β)}{b:β}{Q:β->Shared->Prop}{l:List α}(e:l=[])(h:Q b s):wpAny M A (forIn l b f) Q E s:=by subst e;exact wpAny_pure h
theorem EA{s:Shared}{fd:FuncData}{names:List Str}{vals:List Value}(Q7:fd.params.posonlyargs=[])(XB:fd.params.args.map (·.arg)=names)(hkw:fd.params.kwonlyargs=[])(hva:fd.params.vararg=none)(hka:fd.params.kwarg=none)
  (hlen:vals.length=names.length) (SH:names.Nodup) (hdef:∀(M:Model) (A:Around) (E:Value->Shared->Prop) (Q:Option (Array Value)->Shared->Prop),(∀r,Q r s)->wpAny M A (seqItems? fd.defaults) Q E s):BindsTo s fd ⟨vals,[]⟩ (names.zip vals):=by
 intro M A E Q hq;have hp:fd.params.posonlyargs.map (·.arg)++fd.params.args.map (·.arg)=names:=by rw[Q7,XB];rfl
 have XC:∀k,List.filter (λn=>(List.lookup n (names.zip vals)).isNone) (List.take k names)=[]:=λk=>
  List.filter_eq_nil_iff.mpr λx hx e=>by rw[Option.isNone_iff_eq_none]at e;have:=ye (vals:=vals) hlen SH (List.mem_of_mem_take hx);rw[e]at this;exact noB this
 refine wpAny_bind (wpAny_pure (wpAny_bind (hdef _ _ _ _ λr=>?_)));refine wpAny_ite_false (show(decide (_=true))=false from ?_) ?_
 ·rw[hp,hlen,hva];simp
 refine wpAny_ite_false ?_ ?_
 ·rw[hp,XC];rfl
 refine wpAny_bind (yf ?_ λx hx=>?_)
 ·refine wpAny_bind (HF (by rw[hkw];rfl) (wpAny_ite_false rfl ?_));rw[hva,hka];refine wpAny_pure ?_;rw[hp,hkw,List.map_nil,ej,Ez hlen SH];exact hq
 ·rw[hp]at hx;refine if_neg ?_;rw[hp,Option.isNone_iff_eq_none];intro e;have h2:=ye (vals:=vals) hlen SH (List.mem_of_mem_drop (List.of_mem_zip (a:=x.1) (b:=x.2) hx).1);rw[e]at h2;exact noB h2
def cw(ρ:bU)(h:Heap):bU:=λa=>match ρ a with
 | .free=>match h.get? a with
  |some o=> .aY o
  |none=> .free
 |r=>r
section
variable{T:bk}{ρ:bU}{L:Lo}{σ:PS}{h h':Heap}
theorem ps:gc ρ (cw ρ h):=⟨λa o e=>by unfold cw;rw[e],λa o e=>by unfold cw;rw[e]⟩
theorem sg{a:Addr}{g:Tag}(e:ρ a= .own g):cw ρ h a= .own g:=by unfold cw;rw[e]
theorem zQ{a:Addr}{o:Obj}(e:ρ a= .free)(g:h.get? a=some o):cw ρ h a= .aY o:=by unfold cw;rw[e];dsimp only;rw[g]
theorem Rep.cw(R:Rep T ρ L σ h)(k:∀b o,h.get? b=some o->h'.get? b=some o):Rep T (cw ρ h') L σ h':=by
 refine⟨R.np,R.nt,λa=>?_,λn m e=>(R.ax n m e).keep ps.bB .refl (by rw[R.np];exact br e) λa g _ q=>⟨sg q,λo ho=>k a o ho⟩,λn m e=>(R.aI n m e).keep ps.bB .refl (by rw[R.nt];exact br e) λa q=>⟨sg q,λo ho=>k a o ho⟩⟩;have:=R.role a;unfold Mine.cw;split
 ·rename_i q;split
  ·rename_i o g;exact g
  ·trivial
 ·rename_i q;revert this q;cases ρ a with
  |free=>intro _ q;exact(q rfl).elim
  |bB o=>intro e _;exact k _ _ e
  |aY o=>intro e _;exact k _ _ e
  |own g=>rintro⟨o,e⟩ _;exact⟨o,k _ _ e⟩
end
theorem sh{ns:mD}:∀{k:Nat} {acc:List (Str×Addr)} {x:Str},((cellsFrom k ns acc).lookup x).isSome=true<->((x,NameKind.cell)∈ns\/(acc.lookup x).isSome=true):=by
 induction ns with
 |nil=>intro k acc x;unfold cellsFrom;simp
 |cons nk r ih=>
  intro k acc x;rcases nk with⟨n,kd⟩;dsimp only[cellsFrom];split
  ·rename_i hk;have hk:=cj hk;rw[hk];rw[ih];constructor
   ·rintro(h|h)
    ·exact .inl (.tail _ h)
    ·rw[oe]at h;split at h
     ·rename_i q;rw[cj q];exact .inl (.head _)
     ·exact .inr h
   ·rintro(h|h)
    ·rcases dJ.mp h with e|h
     ·cases e;right;rw[oe,beq_self_eq_true];rfl
     ·exact .inl h
    ·right;rw[oe];split
     ·rfl
     ·exact h
  ·rename_i hk;rw[ih];constructor
   ·rintro(h|h)
    ·exact .inl (.tail _ h)
    ·exact .inr h
   ·rintro(h|h)
    ·rcases dJ.mp h with e|h
     ·cases e;exact(hk rfl).elim
     ·exact .inl h
    ·exact .inr h
theorem lookup_mem{x:Str}{k:NameKind}{ns:mD}(hn:(ns.map (·.1)).Nodup)(h:(x,k)∈ns):ns.lookup x=some k:=by
 induction ns with
 |nil=>exact nomatch h
 |cons p r ih=>
  obtain⟨n,k0⟩:=p;rw[kg,n_]at hn;rw[oe];rcases dJ.mp h with e|h
  ·cases e;simp
  ·have:(x==n)=false:=beq_eq_false_iff_ne.mpr λe=>hn.1 (e▸qS.mpr ⟨_,h,rfl⟩);rw[this];exact ih hn.2 h
theorem si{kd:Str->Option NameKind}:∀{bs:List (Str×Value)} {m:Str->Option Value} {x:Str},x∉bs.map (·.1)->bindL kd bs m x=m x
 |[],_,_,_=>rfl
 |(n,v)::r,m,x,h=>by
  rw[si λz=>h (.tail _ z)];split
  ·have:x≠n:=λe=>h (e▸.head _);simp[this]
  ·rfl
theorem yg{kd:Str->Option NameKind}{x:Str}{u:Value}(hk:kd x=some .local):∀{bs:List (Str×Value)} {m:Str->Option Value},(bs.map (·.1)).Nodup->(x,u)∈bs->bindL kd bs m x=some u
 |(n,v)::r,m,hn,h=>by
  rw[kg,n_]at hn;dsimp only[bindL];rcases dJ.mp h with e|h
  ·cases e;rw[si hn.1,if_pos hk];simp
  ·exact yg hk hn.2 h
theorem sj{kd:Str->Option NameKind}:∀{bs:List (Str×Value)} {m:Str->Option Value} {x:Str},x∉bs.map (·.1)->bindC kd bs m x=m x
 |[],_,_,_=>rfl
 |(n,v)::r,m,x,h=>by
  rw[sj λz=>h (.tail _ z)];split
  ·rfl
  ·have:x≠n:=λe=>h (e▸.head _);simp[this]
theorem yh{kd:Str->Option NameKind}{x:Str}{u:Value}(hk:kd x=some .cell):∀{bs:List (Str×Value)} {m:Str->Option Value},(bs.map (·.1)).Nodup->(x,u)∈bs->bindC kd bs m x=some u
 |(n,v)::r,m,hn,h=>by
  rw[kg,n_]at hn;dsimp only[bindC];rcases dJ.mp h with e|h
  ·cases e;rw[sj hn.1,if_neg (by rw[hk];decide)];simp
  ·exact yh hk hn.2 h
theorem yi:∀{names:List Str} {vals:List Value},vals.length=names.length->(names.zip vals).map (·.1)=names
 |[],[],_=>rfl
 |n::r,v::t,h=>by simp[yi (names:=r) (vals:=t) (by simpa using h)]
 |[],_::_,h=>by simp at h
 |_::_,[],h=>by simp at h
theorem gG.get{T:bk}{ρ:bU}{L:Lo}:∀{xs:List PV} {vs:List Value} {i:Nat} {x:PV},gG T ρ L xs vs->xs[i]?=some x->∃v,vs[i]?=some v/\cv T ρ L x v
 |[],_,_,_,_,h=>by simp at h
 |_::_,[],_,_,h,_=>h.elim
 |x::r,v::t,0,y,h,e=>by simp only[fw,sW,getElem?_pos,uE,nZ]at e;subst e;exact⟨v,rfl,h.1⟩
 |x::r,v::t,i+1,y,h,e=>by simp only[qN]at e⊢;exact gG.get h.2 e
inductive K6 (T:bk) (tb:Tb) (F:Fn) (fa:Addr):Prop
 |mk (o:Obj) (fd:FuncData) (body:List Stmt) (nm:List Str) (h1:T.K.lookup fa=some o) (h2:o.data= .func fd) (h3:fd.body= .stmts body) (h4:fd.closure=[])
  (h5:∃c oc vs t,fd.code= .ref c/\T.K.lookup c=some oc/\oc.data= .fields vs/\vs[1]?=some (.str fd.qualname t))
  (h6:fd.params.posonlyargs=[]) (h7:fd.params.kwonlyargs=[]) (h8:fd.params.vararg=none) (h9:fd.params.kwarg=none) (H_:fd.params.args.map (·.arg)=nm.take F.ar)
  (iV:fd.defaults= .none\/∃t ot items n,fd.defaults= .ref t/\T.K.lookup t=some ot/\ot.data= .seq items n)
  (gV:fd.scope.kind= .function) (H9:fd.scope.isCoroutine=false) (LW:fd.scope.isGenerator=false) (h15:fd.globals=mainGlobals) (wc:fd.builtins=builtinsNs)
  (vq:F.ar<=nm.length) (l_:nm.length=F.nl) (h19:(nm.take F.ar).Nodup) (h20:(fd.scope.names.map (·.1)).Nodup) (h21:∀x∈nm.take F.ar,fd.scope.names.lookup x=some .local\/fd.scope.names.lookup x=some .cell)
  (YZ:∀i x,isVar fd.scope.names nm i x=true->once nm i x) (Y0:Kb tb fd.scope.names nm F.body body=true):K6 T tb F fa
structure yj (n:Nat) (A:Around):Prop where
 handled:A.handled=none
 depth:A.depth+4*n+8<recursionLimit
 units:A.units+40*n+110<cLine
theorem lY.to0{n:Nat}{A:Around}(r:lY n A):yj n A:=⟨r.handled,by have:=r.depth;omega,by have:=r.units;omega⟩
def sk(T:bk)(prog:Program)(w:World)(n:Nat)(sp:Spec)(f:Value):Prop:=
 ∀(A:Around) (s:Shared) (ρ:bU) (L:Lo) (pm:List MO) (ts:List TO) (args:List PV) (vals:List Value) (v:PV) (aA:List MO) (nX:List TO) (R:Result->Shared->Prop),yj n A->hJ T ρ->Rep T ρ L ⟨pm,ts⟩ s.heap->gG T ρ L args vals->sp args pm ts=some (v,aA,nX)->Qy v=true->
  (∀u s',zO T ρ L s ts.length v aA nX u s'->R (.ok (.ret u)) s')->codeAny (model prog w) A (.call f ⟨vals,[]⟩) R s
theorem sk.spec{T:bk}{prog:Program}{w:World}{n:Nat}{sp:Spec}{f:Value}(H:sk T prog w n sp f):zP T prog w n sp f:=by intro A s ρ L pm ts args vals v aA nX rm K R p q hv;exact wpAny_call (H A s ρ L pm ts args vals v aA nX _ rm.to0 K R p q hv λu s' P=>P)
structure sr (T:bk):Prop where
 lim:∃o m,T.K.lookup cStatics=some o/\rX o m/\m "sys.recursionlimit"=none
section
variable{T:bk}{tb:Tb}{n:Nat}{X:Cx}{F:Fn}{fa:Addr}
theorem yj.deep{A:Around}{env:Env}(r:yj (n+1) A):lY n (A.deeper env):=⟨r.handled,od2 (i:=1) (j:=10) (k:=12) (show A.depth+4*n+12<_ from r.depth) rfl,od2 (i:=3) (j:=120) (k:=150) (show A.units+40*n+150<_ from r.units) rfl⟩
theorem K8(S:sr T)(I:K6 T tb F fa)(G:∀A,lY n A->Ctx T tb prog w A n X):sk T prog w (n+1) (tH X F) (.ref fa):=by
 obtain⟨o,fd,body,nm,h1,h2,h3,h4,h5,h6,h7,h8,h9,H_,iV,gV,H9,LW,h15,wc,vq,l_,h19,h20,h21,YZ,Y0⟩:=I;intro A s ρ L pm ts args vals v aA nX RR rm K R p q hv hR;refine dN q λhar q=>?_;have har:=kh har;have Kh:=K.in R;have hlv:vals.length=(nm.take F.ar).length:=by rw[<-p.length,har,List.length_take];omega
 have hlim:s.heap.NoLimit:=by obtain⟨os,ms,e1,e2,e3⟩:=S.lim;exact⟨ms,uf (Kh _ _ e1) e2,e3⟩
 refine codeAny_call_function (by have:=rm.depth;omega) (Kh _ _ h1) h2 H9 LW h3 ?_ ?_
 ·obtain⟨c,oc,vs,t,e1,e2,e3,e4⟩:=h5;exact⟨c,oc,vs,t,e1,Kh _ _ e2,e3,e4⟩
 refine EA h6 H_ h7 h8 h9 hlv h19 ?_ _ _ _ _ ?_
 ·intro M A E Q hQ;rcases iV with e|⟨t,ot,items,m,e1,e2,e3⟩
  ·rw[e];exact wpAny_pure (hQ _)
  ·rw[e1];exact wpAny_seqItems (Kh _ _ e2) e3 (hQ _)
 rw[h4,h15,wc];have hz:=yi hlv;refine wpAny_newFunctionEnv_cells gV (λx hx=>?_) λenv he aC C=>?_
 ·have hm:x.1∈nm.take F.ar:=by rw[<-hz];exact qS.mpr ⟨x,hx,rfl⟩
  rcases h21 _ hm with h|h
  ·exact .inl h
  ·exact .inr ⟨h,sh.mpr (.inl (mem_lookup h))⟩
 refine⟨hlim.keeps C.toInCall.keep,codeAny_func ?_⟩;have vM:env.scope=fd.scope:=by rw[he];rfl
 have hce:env.cells=cellsFrom (s.heap.objs.size+1) fd.scope.names []:=by rw[he];rfl
 have XD:env.locals=s.heap.objs.size:=by rw[he];rfl
 have hgl:env.globals=mainGlobals:=by rw[he];rfl
 have hbn:env.builtins=builtinsNs:=by rw[he];rfl
 have hkd:∀x,env.kindOf x=fd.scope.names.lookup x:=λx=>by show env.scope.names.lookup x=_;rw[vM]
 have Sy:∀x,(env.cells.lookup x).isSome=true<->env.kindOf x=some .cell:=λx=>by
  rw[hce,sh,hkd];constructor
  ·rintro(h|h)
   ·exact lookup_mem h20 h
   ·cases h
  ·intro h;exact .inl (mem_lookup h)
 have kY:=R.cw C.toInCall.keep;have yk:gc ρ (cw ρ aC.heap):=ps;have fr:∀a o,s.heap.objs.size<=a->aC.heap.get? a=some o->cw ρ aC.heap a= .aY o:=λa o ha g=>by
  refine zQ (R.fresh ?_) g;cases e:s.heap.get? a with
  |none=>rfl
  |some o'=>exact absurd (Heap.lt_size e) (Nat.not_lt.mpr ha)
 have Y1:∀x c,env.cells.lookup x=some c->env.locals<c:=λx c e=>C.above x c (mem_of_lookup e);obtain⟨oL,gL,nL⟩:=AV C.toInCall.ns;have SH:(((nm.take F.ar).zip vals).map (·.1)).Nodup:=by rw[hz];exact h19
 have at_:∀(i:Nat) (x:Str) (v:PV),nm[i]?=some x->(args.map some++List.replicate (F.nl-F.ar) none)[i]?=some (some v)->∃u,(x,u)∈(nm.take F.ar).zip vals/\cv T (cw ρ aC.heap) L v u:=by
  intro i x v e1 e2;have hi:i<args.length:=by
   by_cases hi:i<args.length
   ·exact hi
   ·rw[yw (by rw[eT];omega)]at e2;have:=qO e2;rw[List.mem_replicate]at this;cases this.2
  rw[mM (by simpa only[eT]using hi),pR]at e2;obtain⟨v',e3,e4⟩:=ET.mp e2;cases e4;obtain⟨u,g1,g2⟩:=p.get e3;refine⟨u,?_,cv.mono yk.bB .refl g2⟩;have e5:(nm.take F.ar)[i]?=some x:=by rw[List.getElem?_take,if_pos (by omega)];exact e1
  exact qO (List.getElem?_zip_eq_some.mpr ⟨e5,g1⟩)
 have bu:cL T (cw ρ aC.heap) L env nm (args.map some++List.replicate (F.nl-F.ar) none):=by
  refine⟨by rw[vM];exact gV,hgl,hbn,⟨oL,_,fr _ _ (by rw[XD];exact dA _) gL,nL,λi x v e1 e2 e3=>?_⟩,λi x v e1 e2 e3=>?_⟩
  ·obtain⟨u,g1,g2⟩:=at_ i x v e1 e2;exact⟨u,yg e3 SH g1,g2⟩
  ·obtain⟨u,g1,g2⟩:=at_ i x v e1 e2;obtain⟨c,hc⟩:=yx.mp ((Sy x).mpr e3);obtain⟨oc,k1,k2⟩:=C.cell x c hc;refine⟨c,oc,u,hc,fr _ _ (by have:=Y1 x c hc;rw[XD]at this;exact Nat.le_of_lt this) k1,?_,g2⟩;rw[k2,yh e3 SH g1]
 have lZ:dR (cw ρ aC.heap) env:=by refine⟨λx e=>?_,λx y c e1 e2=>name_of_addr C.apart (mem_of_lookup e1) (mem_of_lookup e2),λx c e=>Nat.ne_of_gt (Y1 x c e)⟩;obtain⟨c,hc⟩:=yx.mp ((Sy x).mpr e);obtain⟨oc,k1,k2⟩:=C.cell x c hc;exact⟨c,oc,_,hc,fr _ _ (by have:=Y1 x c hc;rw[XD]at this;exact Nat.le_of_lt this) k1,k2⟩
 have NO:vW env nm:=⟨⟨⟨by rw[vM];exact gV,λx e=>(Sy x).mpr e⟩,λi x e=>YZ i x (by rw[vM]at e;exact e)⟩,λx e=>(Sy x).mp e⟩;have vY:cS s aC:=by obtain⟨h,tk,e⟩:=C.toInCall.same;exact⟨h,tk,e⟩
 have apL:∀a o,ρ a= .aY o->a≠env.locals/\∀x,env.cells.lookup x≠some a:=λa o e=>by
  have sR:=Heap.lt_size (R.aY e);refine⟨λz=>?_,λx z=>?_⟩
  ·rw[z,XD]at sR;exact Nat.lt_irrefl _ sR
  ·have:=Y1 x a z;rw[XD]at this;exact absurd sR (Nat.not_lt.mpr (Nat.le_of_lt this))
 have Bf:=mH (G (A.deeper env) rm.deep) NO F.body (xs:=body) (by rw[vM];exact Y0);have back:∀{aZ:bU},jD env (cw ρ aC.heap) aZ->gc ρ aZ:=λa=>⟨λx o e=>a.bB x o (yk.bB x o e),λx o e=>a.aY x o (apL x o e).1 (apL x o e).2 (yk.aY x o e)⟩;refine je q λHw eQ aM qb q=>?_;cases Hw with
 |ret rv=>
  refine Bf.aV (K.mono yk) bu lZ kY qb λf bG aZ eM a b c d ip j8 O₂ HG=>?_;cases HG with
  |ret pv=>
   rename_i u;refine hR _ _ ?_;cases rv with
   |aI m=>
    refine dN q λ_ q=>?_;refine aF q λx bJ qf q=>?_;cases q;obtain⟨cV,a3,R3,p3⟩:=iH c pv qf;exact⟨cV,eM,bJ.tm,(back a).trans a3,b,R3,vY.trans d,(mW _ _).symm,p3⟩
   |_=>
    cases q;exact⟨aZ,eM,aM.tm,back a,b,c,vY.trans d,(mW _ _).symm,pv⟩
 |next=>
  refine Bf.aV (K.mono yk) bu lZ kY qb λf bG aZ eM a b c d ip j8 O₂ HG=>?_;cases HG with
  |next=>
   cases q;exact hR _ _ ⟨aZ,eM,aM.tm,back a,b,c,vY.trans d,(mW _ _).symm,kU⟩
 |cont=>cases q
end
theorem EC(C:Addr)(l:List Value):(Code.builtin "type.__call__" ⟨.ref C::l,[]⟩).weight=1:=by with_unfolding_all rfl
theorem HH(C:Addr)(l:List Value):(Code.builtin "type.__call__" ⟨.ref C::l,[]⟩).cUnits=1:=by with_unfolding_all rfl
theorem lY.make{n:Nat}{A:Around}(r:lY n A)(C:Addr)(l:List Value):yj n (A.under (.builtin "type.__call__" ⟨.ref C::l,[]⟩)):=
 ⟨r.handled,by show A.depth+(Code.builtin "type.__call__" ⟨.ref C::l,[]⟩).weight+4*n+8<_;rw[EC];have:=r.depth;omega,
  by show A.units+(Code.builtin "type.__call__" ⟨.ref C::l,[]⟩).cUnits+40*n+110<_;rw[HH];have:=r.units;omega⟩
section
variable{T:bk}{ρ:bU}{L:Lo}{pm:List MO}{ts:List TO}{h:Heap}
theorem Rep.K9(R:Rep T ρ L ⟨pm,ts⟩ h)(C:Nat):∃aJ L',gc ρ aJ/\L.le L'/\Rep T aJ L' ⟨pm++[.inst C []],ts⟩ ((h.push emptyDict).push (instObj (T.cl C) h.objs.size))/\L'.p pm.length=h.objs.size+1/\pm.length<L'.np:=by
 let d:=h.objs.size;let x:=h.objs.size+1;have gd:((h.push emptyDict).push (instObj (T.cl C) h.objs.size)).get? d=some emptyDict:=h_ _ (jK _ rfl);have gx:((h.push emptyDict).push (instObj (T.cl C) h.objs.size)).get? x=some (instObj (T.cl C) h.objs.size):=by
  have:=jK (h.push emptyDict) (o:=instObj (T.cl C) h.objs.size) rfl
  rwa [Heap.size_push]at this
 have old:∀a o,h.get? a=some o->((h.push emptyDict).push (instObj (T.cl C) h.objs.size)).get? a=some o:=λa o e=>h_ _ (h_ _ e);have fd:=R.new;have fx:ρ x= .free:=R.fresh (Heap.get?_none_of_le (qT _));have dx:x≠d:=Nat.succ_ne_self _;have ne:∀{a},ρ a≠.free->a≠d/\a≠x:=λn=>⟨λz=>n (z▸fd),λz=>n (z▸fx)⟩;let aJ:bU:=up (up ρ d (.own (.d pm.length))) x (.own (.p pm.length));have keep:∀a r,ρ a=r->r≠.free->aJ a=r:=λa r e n=>by obtain⟨n1,n2⟩:=ne (a:=a) (by rw[e];exact n);show up _ x _ a=r;rw[a8 n2,a8 n1];exact e
 have le:gc ρ aJ:=⟨λa o e=>keep a _ e (by intro z;cases z),λa o e=>keep a _ e (by intro z;cases z)⟩;let L':Lo:=⟨λn=>if n=pm.length then x else L.p n,λn=>if n=pm.length then d else L.d n,L.t,L.np+1,L.nt⟩;have np:L.np=pm.length:=R.np;have ll:L.le L':=⟨qT _,dA _,λn hn=>by show(if n=pm.length then x else L.p n)=_;rw[if_neg (by omega)],λn hn=>by show(if n=pm.length then d else L.d n)=_;rw[if_neg (by omega)],λ_ _=>rfl⟩;refine⟨aJ,L',le,ll,⟨by show L.np+1=(pm++[_]).length;rw[np,dS];rfl,R.nt,λa=>?_,λn m e=>?_,λn t e=>(R.aI n t e).keep le.bB ll (by rw[R.nt];exact br e) λa q=>⟨keep a _ q (by intro z;cases z),λo ho=>old a o ho⟩⟩,by show(if pm.length=pm.length then x else _)=_;rw[if_pos rfl],by show pm.length<L.np+1;omega⟩
 ·by_cases hx:a=x
  ·subst hx;show pa _ _ (up _ x _ x);rw[aO];exact⟨_,gx⟩
  ·by_cases hd:a=d
   ·rw[hd];show pa _ _ (up _ x _ d);rw[a8 (gA dx),aO];exact⟨_,gd⟩
   ·have e:aJ a=ρ a:=by show up _ x _ a=_;rw[a8 hx,a8 hd]
    rw[e];have:=R.role a;revert this;cases ρ a with
    |free=>intro _;trivial
    |bB o=>exactλe=>old a o e
    |aY o=>exactλe=>old a o e
    |own g=>rintro⟨o,e⟩;exact⟨o,old a o e⟩
 ·by_cases hn:n<pm.length
  ·have e:pm[n]?=some m:=by rw[<-e];exact(mM hn).symm
   exact(R.ax n m e).keep le.bB ll (by rw[np];exact hn) λa g _ q=>⟨keep a _ q (by intro z;cases z),λo ho=>old a o ho⟩
  ·have hl:=br e;have hl:n<(pm++[MO.inst C []]).length:=hl
   replace hl:=dS▸hl
   have:n=pm.length:=Nat.le_antisymm (Nat.le_of_lt_succ hl) (Nat.not_lt.mp (by assumption));subst this;have:m= .inst C []:=by simpa using e.symm
   rw[this];have p1:L'.p pm.length=x:=by show(if pm.length=pm.length then x else _)=_;rw[if_pos rfl]
   have d1:L'.d pm.length=d:=by show(if pm.length=pm.length then d else _)=_;rw[if_pos rfl]
   refine⟨?_,?_,?_,#[],0,?_,trivial⟩
   ·rw[p1];show up _ x _ x=_;rw[aO]
   ·rw[d1];show up _ x _ d=_;rw[a8 (gA dx),aO]
   ·rw[p1,d1];exact gx
   ·rw[d1];exact gd
end
def yl(T:bk)(tb:Tb):Nw->Addr->Prop
 | .init C f,a=>a=T.cl C/\makesIn T.K (T.cl C)=true/\findIn T.K (.ref (T.cl C)) "__init__"=some (some (.ref (tb.fv f)))/\typeIn T.K (.ref (tb.fv f))=some (.type "function")
 | .bare C,a=>a=T.cl C/\makesIn T.K (T.cl C)=true/\findIn T.K (.ref (T.cl C)) "__init__"=some (some (.builtin "object.__init__"))
 | .no,_=>True
section
variable{T:bk}{tb:Tb}{n:Nat}
theorem HI{fn:Nat->Spec}{nw:Nw}{Ca:Addr}(I:yl T tb nw Ca)(H:∀f,(∃a p t r,fn f a p t=some r)->sk T prog w n (fn f) (.ref (tb.fv f))):zP T prog w n (ix fn nw) (.ref Ca):=by
 intro A s ρ L pm ts args vals v aA nX rm K R p q hv;have Kh:=K.in R;refine wpAny_call ?_;cases nw with
 |no=>unfold ix at q;cases q
 |init C f=>
  obtain⟨rfl,i1,i2,i3⟩:=I;refine je q λkx pm₁ ts₁ qf q=>?_;obtain rfl:kx= .d .none:=by cases kx<;>first|change q|(rename_i x;cases x<;>first|rfl|change q)
  cases q;obtain⟨ao,aQ,le,ll,kY,lp,ln⟩:=R.K9 C;obtain⟨hh,g,d,t,os⟩:=s;refine make_core (makes_of Kh i1) (looks_findIn Kh i2) (λself=>bind_fn Kh self i3) (.inl rfl) ?_;refine H f ⟨_,_,_,_,qf⟩ _ _ ao aQ _ ts (.ax pm.length::args) (.ref (hh.objs.size+1)::vals) _ _ _ _ (rm.make _ _) (K.mono le) kY ⟨⟨ln,by rw[lp]⟩,gG.mono le.bB ll p⟩ qf rfl λu s' P=>?_;obtain⟨aZ,eM,Ie,a,b,c,d',e,pv⟩:=P;have:u= .none:=by have pv:=pv;exact pv
  rw[this];refine And.intro rfl ?_;refine⟨aZ,eM,Ie,le.trans a,ll.trans b,c,?_,e,pW ln b.np,?_⟩
  ·obtain⟨h,tk,e⟩:=d';exact⟨h,tk,e⟩
  ·rw[b.p _ ln,lp]
 |bare C=>
  obtain⟨rfl,i1,i2⟩:=I;unfold ix at q;dsimp only at q;split at q<;>first|change q|skip
  cases q;cases vals with
  |cons _ _=>exact p.elim
  |nil=>
   obtain⟨hh,g,d,t,os⟩:=s;have Y:=makes_of (M:=model prog w) Kh i1;obtain⟨R1,SF⟩:=R.zf emptyDict rfl;have R2:=R1.zf (instObj (T.cl C) hh.objs.size) rfl;refine make_core Y (looks_findIn Kh i2) (λself=>Looks.of_pure (oi_bind self)) (.inr ⟨rfl,rfl⟩) ?_;have gx:((hh.push emptyDict).push (instObj (T.cl C) hh.objs.size)).get? (hh.objs.size+1)=some (instObj (T.cl C) hh.objs.size):=by
    have:=jK (hh.push emptyDict) (o:=instObj (T.cl C) hh.objs.size) rfl
    rwa [Heap.size_push]at this
   have t1:Looks (model prog w) ((hh.push emptyDict).push (instObj (T.cl C) hh.objs.size)) (typeOf (.ref (hh.objs.size+1))) (.ref (T.cl C)):=(Looks.ld gx).andThen .now;have t2:Looks (model prog w) ((hh.push emptyDict).push (instObj (T.cl C) hh.objs.size)) (isInstance (.ref (hh.objs.size+1)) (.type "object")) true:=t1.andThen (Y.top.keeps λb o e=>h_ _ (h_ _ e));refine codeAny_call_builtin oi_plain entry_oi (@check_slot (model prog w) _ _ _ "object.__init__" "object" "__init__" (.ref (hh.objs.size+1)) [] [] _ oi_kind oi_split t2 (oi_args (.ref (hh.objs.size+1))) ?_);rw[oi_run];refine wpAny_pure (And.intro rfl ?_);rw[Heap.size_push]at R2;refine⟨_,L,nX,SF.trans R2.2,.refl,R2.1,⟨_,_,rfl⟩,by simp,?_⟩;show VR T.P T.cl _ (.cin C) _;exact⟨_,_,0,rfl,aO,by rw[a8 (sX (yD _))];exact aO⟩
end
structure Facts (T:bk) (tb:Tb) (w:World) (P:Pr):Prop where
 ok:dG T w
 call:sr T
 an:tb.an=T.an
 nA:tb.nA=T.nA
 glob:∀g d ρ,P.glob g=some d->hJ T ρ->∃v,nsIn T.K mainGlobals (tb.gn g)=some (some v)/\VR T.P T.cl ρ d v
 fn:∀f F,P.fn f=some F->K6 T tb F (tb.fv f)/\(tb.YN f=true->nsIn T.K mainGlobals (tb.YM f)=some (some (.ref (tb.fv f))))/\keepIn T.K (.ref (tb.fv f))=true
 new:∀c,P.new c≠.no->∃C,nsIn T.K mainGlobals (tb.YO c)=some (some (.ref C))/\keepIn T.K (.ref C)=true/\yl T tb (P.new c) C
 aR:∀C m f,P.aR C m=some f->findIn T.K (.ref (T.cl C)) (tb.mn m)=some (some (.ref (tb.fv f)))/\typeIn T.K (.ref (tb.fv f))=some (.type "function")/\keepIn T.K (.ref (tb.fv f))=true/\∀a,a<T.nA->T.an a≠tb.mn m
 bi:∀b,nsIn T.K mainGlobals (Ib b)=some none/\nsIn T.K builtinsNs (Ib b)=some (some (YR b))
 sys:(T.K.lookup sysModules).isSome=true
 bm:tb.mn mV="append"/\tb.mn E'="pop"/\tb.mn IJ="get"
def XE(P:Pr)(n:Nat):Cx:=⟨P.glob,run P n,P.aR,λc=>ix (run P n) (P.new c),P.fuel⟩
section
variable{T:bk}{tb:Tb}{P:Pr}
theorem ym{n f:Nat}{a:List PV}{p:List MO}{t:List TO}{r:PV×List MO×List TO}(h:run P n f a p t=some r):∃F,P.fn f=some F:=by
 cases n with
 |zero=>exact noS h
 |succ n=>
  cases e:P.fn f with
  |some F=>exact⟨F,rfl⟩
  |none=>
   have h:(match P.fn f with
    |some F=>tH ⟨P.glob,run P n,P.aR,λc=>ix (run P n) (P.new c),P.fuel⟩ F
    |none=>λ_ _ _=>none) a p t=some r:=h
   rw[e]at h;exact noS h
theorem HJ(H:Facts T tb w P):∀(n f:Nat),sk T prog w n (run P n f) (.ref (tb.fv f))
 |0,f=>by intro A s ρ L pm ts args vals v aA nX R rm K Rp p q;exact noS q
 |n+1,f=>by
  have ih:=HJ H n;intro A s ρ L pm ts args vals v aA nX R rm K Rp p q hv hR;obtain⟨F,hF⟩:=ym q;have e:run P (n+1) f=tH (XE P n) F:=by
   show(match P.fn f with
    |some F=>tH ⟨P.glob,run P n,P.aR,λc=>ix (run P n) (P.new c),P.fuel⟩ F
    |none=>λ_ _ _=>none)=_
   rw[hF];rfl
  rw[e]at q;have G:∀A,lY n A->Ctx T tb prog w A n (XE P n):=λA rm=>⟨H.ok,rm,{
   an:=H.an
   nA:=H.nA
   glob:=H.glob
   fn:=λf h=>by obtain⟨a,p,t,r,h⟩:=h;obtain⟨F',hF'⟩:=ym h;obtain⟨h1,h2,h3⟩:=H.fn f F' hF';exact⟨h2,h3,uw (ih f).spec⟩
   new:=λc h=>by
    obtain⟨a,p,t,r,h⟩:=h;have hn:P.new c≠.no:=λz=>by have h:ix (run P n) (P.new c) a p t=some r:=h;rw[z]at h;exact noS h
    obtain⟨C,h1,h2,h3⟩:=H.new c hn;exact⟨C,h1,h2,uw (HI h3 λf _=>ih f)⟩
   aR:=H.aR
   bi:=H.bi
   sys:=H.sys
   bm:=H.bm}⟩
  exact K8 H.call (H.fn f F hF).1 G A s ρ L pm ts args vals v aA nX R rm K Rp p q hv hR
end
end
section
def hSl(l:List String):List Str:=l.map sO
def hIx:List Nat:=[0,1,2,3,95,96,102,103,109,110,119,120,125,126,127,128,129,130,131,132,133,134,135,136,137,138,139,140,141,142,143,144,145,146,147,148,149,168,169,182,183,185,186,250,256,257,263,264,270,271,277,278,284,285,291,292,298,299,303,304,308,309,322,323,329,330,336,337,405,407,408,410,454,455,472,473,479,480,486,487,493,494,500,501,517,518,528,529,535,536,542,543,549,550,556,557,563,564,570,571,577,578,584,585,591,592,598,599,605,606,612,613,619,620,626,627,633,634,640,641,647,648,654,655,661,662,675,676,682,683,689,690,696,697,703,704,715,716,722,723,729,730,736,737,743,744,750,751,757,758,764,765,769,770,776,777,783,784,790,791,797,798,804,805,811,812,818,819,847,848,854,855,969,970,1004,1005,1011,1012,1047,1048,1054,1055,1068,1069,1075,1076,1078,1079,1094,1095,1097,1098,1106,1107,1113,1114,1120,1121,1122,1123,1124,1125,1126,1127,1128,1129,1130,1131,1137,1138,1144,1145,1151,1152,1158,1159,1163,1164,1168,1169,1175,1176,1180,1181,1187,1188,1194,1195,1201,1202,1208,1209,1215,1216,1220,1221]
def Kf(P:Params):Frag:=NS hIx 0 (hF P)
theorem XF(P:Params):(Kf P).In (Hf P):=Frag.in_of (as:=hIx) (by kernel_rfl) (by kernel_rfl)
def HK(l:List String)(n:Nat):Str:=((Fe l n).map sO).getD Str.empty
def K_{α:Type}(d:α)(l:List α)(n:Nat):α:=(Fe l n).getD d
def tGn(n:Nat):Str:=HK ["FIRST_ROWS","Y_PARAM","Y_UNION","NEVER","Y_ENUM","Y_NUM","NUMBER","Y_STR","Y_TPL","STRING","MARKED_ROWS","FALSE_T","FRESH_F","TRUE_T","FRESH_T","ANY","ERR","UNKNOWN","MAX_UNION","LITERAL_ROWS","R_IDENT","R_COMPARE","VALUE_ROWS","R_SUBTYPE","MAX_OPEN","R_ASSIGN","U_PROP","OBJECTT","OPEN_ROWS","DEFERRED_ROWS","UNDEF","RULE_DEFERRED","Y_INTER","Y_TUPLE","RULE_PLACES","SHAPED_ROWS","RULE_MEET","Y_KEYOF","Y_INDEX","U_READONLY","U_VAR","Y_OBJ","Y_MAPPED","U_INDEX","U_OPTION","Y_COND","Y_ALIAS","Y_REF","Y_SIG","Y_ARRAY","_law_tables"] n
def tFn(n:Nat):Str:=HK ["","","","","","new_param","parts_of","whole_of_row","regular_twin","join_bools","stays_beside","top_of","union","without","is_literal","is_fresh","regular_one","","","","","","by_rule","silent_with","twin_of","cut_back","settled","ask_kinds","relbase_kept","close_trail","tells","taken_wider","simple_related","tops_related","unknown_told","is_numeric_enum","values_related","number_to_enum","structured","rule_for","from_union","some_part","to_union","same_kind","each_in","own_param","pid_bound","named_keys","member_of","mapped_to_param","is_empty_object","to_mapped","index_noted","keeps_marks","own_members","has_readonly","by_members","mark_rank","keys_lie","keys_and_marks","mark_notes","key_notes","mapped_pair","","","put_each","put_late","plain_put","","","","param_related","install_rel_params","_law_units","_law_lies","_law_draw","_law_made","_law_term","_law_row","_law_subsets","_law_other","_law_worlds","_law_members","_law_faults","_law_lies_in","_law_lax","_law_told","law"] n
def Ry(n:Nat):Bool:=!Nat.testBit 2093705452366038171679 n
def Bg(n:Nat):Addr:=K_ 0 [96,103,110,169,183,257,264,271,278,285,292,299,304,309,323,330,337,473,480,487,494,501,529,536,543,550,557,564,571,578,585,592,599,606,613,620,627,634,641,648,655,662,676,683,690,697,704,716,723,730,737,744,751,758,765,770,777,784,791,798,805,812,819,848,855,1012,1048,1055,1069,1076,1095,1107,1114,1121,1138,1145,1152,1159,1164,1169,1176,1181,1188,1195,1202,1209,1216,1221] n
def Y2(n:Nat):Str:=HK ["TypeTable","Notes","Rel","PutHost","ParamRule"] n
def SI(n:Nat):Str:=HK ["append","pop","get","put","ask","holds","force","mark","same","note","put_deferred","put_in","codes"] n
def Ig(n:Nat):Str:=HK ["rows","putting","shaping","renamed","origins","names","defaults","bounds","decls","index","at","missing","twin","telling","notes","deep","road","trail","known","assumed","rules","mode","host","tab","most_deep","most_rounds"] n
def pw(n:Nat):Addr:=K_ 186 [186,120,518,1079,1098] n
def tb:Tb:=⟨tGn,tFn,Ry,Bg,Y2,SI,Ig,26⟩
def tS(P:Params):bk:=⟨P,pw,Ig,26,Kf P⟩
def tNm(n:Nat):List Str:=(K_ [] [["self"],["self","code","at"],["self","found","code","at"],["self","row"],["self","row","t"],["tab","name","bound","default","pid"],["tab","t","row"],["row","kind"],["tab","t","row"],["got"],["tab","got","t"],["got","t"],["tab","parts","got","t","part","top","kept",""],["tab","t","gone",""],["tab","t"],["tab","t","row"],["tab","t"],["self","host","mode"],["self","s","t"],["self","code"],["self","s","t"],["self"],["rel","number","s","t","rule"],["rel","mode","made"],["rel"],["rel","spot"],["host","t"],["rel","s","t","rows","told"],["rel","s","t","key","spot","answer"],["rel","clean","key"],["rel"],["rel","s","t"],["rel","s","t","told","rows","a","b"],["rel","s","t"],["rel","t","parts"],["row"],["rel","s","t","a","b"],["rel","s","a","b"],["rel","s","t","rows","a","b"],["a","b"],["rel","s","t","part"],["rel","s","parts","lax","part","spot"],["rel","s","t","tab","parts","kind"],["rel","s","t","rows","a","b"],["rel","ss","ts","s"],["tab","pid"],["tab","pid","bound"],["host","s","kind"],["rel","s","row"],["rel","t","a","keys"],["row"],["rel","s","a","b"],["rel","s","keys","host","shape"],["tab","s","keys","row"],["rel","s","b","kept"],["host","s"],["rel","s","b","host","member"],["mark"],["rel","want","have","a","b"],["rel","a","b"],["rel","a","b"],["rel","a","b","rows","all_keys"],["rel","a","b","template"],["self","t"],["self","row"],["host","many","mapping",""],["host","t","row","mapping","rest"],["host","t","mapping","row"],["self","tab"],["self","t","mapping"],["self","rel","s","t"],["rel","s","t","row","bound"],["rel"],[],[],["nums","i"],["key","opt","ro","mask","member","held","free"],["x","y"],["tab","keys","things","term","key","opt","ro","mask","member","own","parts",""],["names","found","name",""],["table","way","made","name","kind","free","closed"],["codes","worlds","table","picks","pick","smaller","few","way",""],["side","world","key","opt","ro","mask","member","base","made","name","kind","free","closed","got"],["one","other","found","name","kind","free","closed","have","lacks","fixed","want","read"],["one","other","near"],["one","other"],["fault","codes"],["script","nums","tab","t","u","k","p","pq","keys","lap","form","one","other","source","target","rel","lets","codes","faults","world","want","lost","","","",""]] n).map sO
end
section
set_option maxRecDepth 512
variable{prog:Program}{w:World}{A:Around}{s:Shared}
def sx:List Str->Bool
 |[]=>true
 |x::r=>!(r.contains x)&&sx r
theorem lJ:∀{l:List Str},sx l=true->l.Nodup
 |[],_=>sV
 |x::r,h=>by have h:=jJ.mp h;refine n_.mpr ⟨λhm=>?_,lJ h.2⟩;have:=h.1;rw[jH.mpr hm]at this;cases this
def vZ:List Str->Bool
 |[]=>true
 |x::r=>(x==Str.empty||!(r.contains x))&&vZ r
theorem ux:∀{l:List Str},vZ l=true->∀(i j:Nat) (x:Str),x≠Str.empty->l[i]?=some x->l[j]?=some x->i=j
 |[],_,i,j,x,_,h,_=>by simp at h
 |y::r,h,i,j,x,hx,h1,h2=>by
  have h:=(jJ.mp h).imp_left Bool.or_eq_true_iff.mp;have miss:∀k,y=x->r[k]?≠some x:=λk e z=>by
   rcases h.1 with h|h
   ·exact hx (e▸cj h)
   ·rw[jH.mpr (e▸qO z)]at h;cases h
  cases i with
  |zero=>
   cases j with
   |zero=>rfl
   |succ j=>
    simp only[fw,sW,getElem?_pos,uE,nZ]at h1;simp only[qN]at h2;exact(miss j h1 h2).elim
  |succ i=>
   cases j with
   |zero=>
    simp only[fw,sW,getElem?_pos,uE,nZ]at h2;simp only[qN]at h1;exact(miss i h2 h1).elim
   |succ j=>
    simp only[qN]at h1 h2;rw[ux h.2 i j x hx h1 h2]
theorem K'{ns:mD}{nm:List Str}(h0:ns.lookup Str.empty=none)(h:vZ nm=true)(i:Nat)(x:Str)(hv:isVar ns nm i x=true):once nm i x:=by unfold isVar at hv;rw[bx,bx]at hv;have h1:=cj hv.1.1;refine⟨h1,λj hj=>ux h j i x (λe=>?_) hj h1⟩;subst e;have h2:=hv.1.2;rw[h0]at h2;cases h2
theorem mf{α:Type}{f:α->Bool}{o:Option α}{P:Prop}(h:cC f o=true)(k:∀d,o=some d->f d=true->P):P:=by
 cases o with
 |some d=>exact k d rfl h
 |none=>exact noB h
def vNo(v:Value):Bool:=match v with
 | .none=>true
 |_=>false
theorem Ms{v:Value}(h:vNo v=true):v= .none:=by cases v<;>first|rfl|exact noB h
def La(v:Value):Option (Dx Value Addr .ref v):=match v with
 | .ref a=>some ⟨a,rfl⟩
 |_=>none
def vBoo(v:Value):Option (Dx Value Bool .bool v):=match v with
 | .bool a=>some ⟨a,rfl⟩
 |_=>none
def vInt(v:Value):Option (Dx Value (Int×Tok) (λd=> .int d.1 d.2) v):=match v with
 | .int a b=>some ⟨(a,b),rfl⟩
 |_=>none
def vStr(v:Value):Option (Dx Value (Str×Tok) (λd=> .str d.1 d.2) v):=match v with
 | .str a b=>some ⟨(a,b),rfl⟩
 |_=>none
def vTyp(v:Value):Option (Dx Value String .type v):=match v with
 | .type a=>some ⟨a,rfl⟩
 |_=>none
def Rz(v:Data):Option (Dx Data (Array Value×Nat) (λd=> .seq d.1 d.2) v):=match v with
 | .seq a b=>some ⟨(a,b),rfl⟩
 |_=>none
def dDic(v:Data):Option (Dx Data (Array DictEntry×Nat) (λd=> .dict d.1 d.2) v):=match v with
 | .dict a b=>some ⟨(a,b),rfl⟩
 |_=>none
def dFun(v:Data):Option (Dx Data FuncData .func v):=match v with
 | .func a=>some ⟨a,rfl⟩
 |_=>none
def dFld(v:Data):Option (Dx Data (Array Value) .fields v):=match v with
 | .fields a=>some ⟨a,rfl⟩
 |_=>none
def bSts(v:FuncBody):Option (Dx FuncBody (List Stmt) .stmts v):=match v with
 | .stmts a=>some ⟨a,rfl⟩
 |_=>none
def Bh(K:Frag)(fd:FuncData):Bool:=cC (λc=>cC (λo=>cC (λvs=>cC (λv=>cC (λq=>q.d.1==fd.qualname) (vStr v)) (vs.d[1]?)) (dFld o.data)) (K.lookup c.d)) (La fd.code)
def HL(K:Frag)(v:Value):Bool:=vNo v||cC (λt=>cC (λo=>(Rz o.data).isSome) (K.lookup t.d)) (La v)
def RB(p:Arguments)(names:List Str):Bool:=p.posonlyargs.isEmpty&&(p.kwonlyargs.isEmpty&&(p.vararg.isNone&&(p.kwarg.isNone&&p.args.map (·.arg)==names)))
def v5(ns:mD):List Str->Bool
 |[]=>true
 |x::r=>(ns.lookup x==some .local||ns.lookup x==some .cell)&&v5 ns r
def XG(sc:Scope):Bool:=sc.kind== .function&&(!sc.isCoroutine&&(!sc.isGenerator&&(sx (sc.names.map (·.1))&&(sc.names.lookup Str.empty).isNone)))
def XH(K:Frag)(tb:Tb)(F:Fn)(nm:List Str)(fd:FuncData)(body:List Stmt):Bool:=fd.closure.isEmpty&&(Bh K fd&&(RB fd.params (nm.take F.ar)&&(HL K fd.defaults&&(XG fd.scope&&(Nat.beq fd.globals mainGlobals&&(Nat.beq fd.builtins builtinsNs&&
  (Nat.ble F.ar nm.length&&(Nat.beq nm.length F.nl&&(sx (nm.take F.ar)&&(v5 fd.scope.names (nm.take F.ar)&&(vZ nm&&Kb tb fd.scope.names nm F.body body)))))))))))
def Mt(K:Frag)(tb:Tb)(F:Fn)(fa:Addr)(nm:List Str):Bool:=cC (λo=>cC (λfd=>cC (λb=>XH K tb F nm fd.d b.d) (bSts fd.d.body)) (dFun o.data)) (K.lookup fa)
theorem sy{ns:mD}:∀{l:List Str},v5 ns l=true->∀x∈l,ns.lookup x=some .local\/ns.lookup x=some .cell
 |[],_,x,hx=>by cases hx
 |y::r,h,x,hx=>by
  have h:=(jJ.mp h).imp_left Bool.or_eq_true_iff.mp;rcases dJ.mp hx with rfl|hx
  ·exact h.1.imp (λz=>cj z) λz=>cj z
  ·exact sy h.2 x hx
theorem RE{K:Frag}{fd:FuncData}(h:Bh K fd=true):∃c oc vs t,fd.code= .ref c/\K.lookup c=some oc/\oc.data= .fields vs/\vs[1]?=some (.str fd.qualname t):=
 aB h λc h=>mf h λo e h=>aB h λvs h=>mf h λv ev h=>aB h λq h=>⟨c.d,o,vs.d,q.d.2,c.e,e,vs.e,ev.trans (congrArg some (q.e.trans (congrArg (λx=>Value.str x q.d.2) (cj h))))⟩
theorem XI{K:Frag}{v:Value}(h:HL K v=true):v= .none\/∃t ot items n,v= .ref t/\K.lookup t=some ot/\ot.data= .seq items n:=
 qm h (λh=> .inl (Ms h)) λh=>aB h λt h=>mf h λo e h=>by
  cases q:Rz o.data with
  |none=>rw[q]at h;exact noB h
  |some s=>exact .inr ⟨t.d,o,s.d.1,s.d.2,t.e,e,s.e⟩
theorem Mu{b:Bool}(h:(!b)=true):b=false:=by
 cases b with
 |false=>rfl
 |true=>exact noB h
theorem HM{T:bk}{tb:Tb}{F:Fn}{fa:Addr}{nm:List Str}(h:Mt T.K tb F fa nm=true):K6 T tb F fa:=
 mf h λo hk h=>aB h λfd h=>aB h λb h=>aw h λh1 h=>aw h λh2 h=>aw h λh3 h=>aw h λh4 h=>aw h λh5 h=>aw h λh6 h=>aw h λh7 h=>
 aw h λh8 h=>aw h λh9 h=>aw h λH_ h=>aw h λiV h=>aw h λgV H9=>
 aw h5 λs1 h=>aw h λs2 h=>aw h λs3 h=>aw h λs4 s5=>
 aw h3 λp1 h=>aw h λp2 h=>aw h λp3 h=>aw h λp4 p5=>
 .mk o fd.d b.d nm hk fd.e b.e (gy h1) (RE h2) (gy p1) (gy p2) (kW p3) (kW p4) (cj p5) (XI h4) (cj s1) (Mu s2) (Mu s3) (kh h6) (kh h7)
  (g5 h8) (kh h9) (lJ H_) (lJ s4) (sy iV) (K' (kW s5) gV) H9
def XJ(o:Obj)(d:Array Value×Nat):Bool:=o.dict.isNone&&(o.slots.isEmpty&&(Nat.beq d.2 0&&cC (λt=>t.d=="tuple") (vTyp o.cls)))
theorem XM{o:Obj}{d:Array Value×Nat}(e:o.data= .seq d.1 d.2)(h:XJ o d=true):o=lW d.1:=by refine aw h λh1 h=>aw h λh2 h=>aw h λh3 h=>aB h λt h=>?_;obtain⟨c,di,da,sl⟩:=o;rw[show da=_ from e,show di=none from kW h1,show sl=#[]from Array.isEmpty_iff.mp h2,show c=_ from t.e,cj h,kh h3]
def vsC(f:Value->Bool)(g:List Value->Bool):List Value->Bool
 |[]=>false
 |v::t=>f v&&g t
mutual
noncomputable def Bi (K:Frag):D->Value->Bool
 | .none=>vNo
 | .bool b=>λv=>cC (λc=>b==c.d) (vBoo v)
 | .int i=>λv=>cC (λc=>i==c.d.1) (vInt v)
 | .str l=>λv=>cC (λc=>EI l&&c.d.1==nM l) (vStr v)
 | .tup l=>λv=>cC (λa=>cC (λo=>cC (λs=>XJ o s.d&&zR K l s.d.1.toList) (Rz o.data)) (K.lookup a.d)) (La v)
 | .lst _=>λ_=>false
 | .gT _=>λ_=>false
 | .oy _=>λ_=>false
 | .cin _=>λ_=>false
noncomputable def zR (K:Frag):List D->List Value->Bool
 |[]=>List.isEmpty
 |d::r=>vsC (Bi K d) (zR K r)
end
mutual
theorem yn{T:bk}{ρ:bU}(k:hJ T ρ):∀{d:D} {v:Value},Bi T.K d v=true->VR T.P T.cl ρ d v
 | .none,_,h=>Ms h
 | .bool _,_,h=>aB h λc h=>by rw[cj h];exact c.e
 | .int i,_,h=>aB h λc h=>⟨c.d.2,by rw[cj h];exact c.e⟩
 | .str l,_,h=>aB h λc h=>aw h λh1 h=>⟨c.d.2,by rw[<-cj h];exact c.e,h1⟩
 | .tup l,_,h=>aB h λa h=>mf h λo hk h=>aB h λs h=>aw h λh1 h=>⟨a.d,s.d.1,a.e,k _ _ (hk.trans (congrArg some (XM s.e h1))),uy k h⟩
 | .lst _,_,h=>noB h
 | .gT _,_,h=>noB h
 | .oy _,_,h=>noB h
 | .cin _,_,h=>noB h
theorem uy{T:bk}{ρ:bU}(k:hJ T ρ):∀{l:List D} {vs:List Value},zR T.K l vs=true->dB T.P T.cl ρ l vs
 |[],[],_=>trivial
 |[],_::_,h=>noB h
 |_::_,[],h=>noB h
 |d::r,v::t,h=>aw (a:=Bi T.K d v) h λh1 h=>⟨yn k h1,uy k h⟩
end
def Bj(K:Frag)(x:Str)(d:D):Bool:=cC (cC λv=>Bi K d v) (nsIn K mainGlobals x)
theorem zS{T:bk}{ρ:bU}{x:Str}{d:D}(h:Bj T.K x d=true)(k:hJ T ρ):∃v,nsIn T.K mainGlobals x=some (some v)/\VR T.P T.cl ρ d v:=
 mf h λo e h=>mf h λv e' h=>⟨v,by rw[e,e'],yn k h⟩
section
def Bk(K:Frag)(x:Str)(a:Addr):Bool:=cC (cC λv=>cC (λb=>Nat.beq b.d a) (La v)) (nsIn K mainGlobals x)
theorem sE{K:Frag}{x:Str}{a:Addr}(h:Bk K x a=true):nsIn K mainGlobals x=some (some (.ref a)):=
 mf h λo e h=>mf h λv e' h=>aB h λb h=>by rw[e,e',b.e,kh h]
def lst{α:Type}(f:Nat->α):Nat->Nat->List α
 |_,0=>[]
 |a,n+1=>f a::lst f (a+1) n
theorem mK{α:Type}{f g:Nat->α}:∀{n a:Nat},lst f a n=lst g a n->∀i,a<=i->i<a+n->f i=g i
 |0,a,_,i,h1,h2=>absurd h1 (Nat.not_le_of_lt h2)
 |n+1,a,h,i,h1,h2=>(Nat.eq_or_lt_of_le h1).elim (λe=>e▸(List.cons.inj h).1) λh1=>mK (List.cons.inj h).2 i h1 (by rw[uB];exact h2)
def v7(P:Params)(f:Nat):Bool:=(p8 f).all λF=>Mt (Kf P) tb F (Bg f) (tNm f)&&((!Ry f||Bk (Kf P) (tFn f) (Bg f))&&keepIn (Kf P) (.ref (Bg f)))
theorem fn0(P:Params):lst (v7 P) 0 22=lst (λ_=>true) 0 22:=by kernel_rfl
theorem fn1(P:Params):lst (v7 P) 22 22=lst (λ_=>true) 22 22:=by kernel_rfl
theorem fn2(P:Params):lst (v7 P) 44 22=lst (λ_=>true) 44 22:=by kernel_rfl
theorem fn3(P:Params):lst (v7 P) 66 22=lst (λ_=>true) 66 22:=by kernel_rfl
theorem Lc(k:Nat):p8 (k+88)=none:=by kernel_rfl
theorem HN{n f:Nat}(h:¬f<n){Q:Nat->Prop}(k:∀i,Q (i+n)):Q f:=by
 have e:f=(f-n)+n:=by omega
 rw[e];exact k _
theorem HO(P:Params)(f:Nat):v7 P f=true:=by
 by_cases h:f<88
 ·rcases Nat.lt_or_ge f 22 with a|a
  ·exact mK (fn0 P) f (eJ _) a
  rcases Nat.lt_or_ge f 44 with b|b
  ·exact mK (fn1 P) f a b
  rcases Nat.lt_or_ge f 66 with c|c
  ·exact mK (fn2 P) f b c
  ·exact mK (fn3 P) f c h
 ·exact HN h (Q:=λf=>v7 P f=true) λk=>by unfold v7;rw[Lc];rfl
def XN(g:Nat):Bool:=Nat.beq g 50
def HP(P:Params)(g:Nat):Bool:=XN g||(l7 g).all (Bj (Kf P) (tGn g))
theorem gl0(P:Params):lst (HP P) 0 51=lst (λ_=>true) 0 51:=by kernel_rfl
theorem ED(k:Nat):l7 (k+51)=none:=by kernel_rfl
theorem RF(P:Params)(g:Nat):HP P g=true:=by
 by_cases h:g<51
 ·exact mK (gl0 P) g (eJ _) h
 ·exact HN h (Q:=λg=>HP P g=true) λk=>by unfold HP;rw[ED];exact Bool.or_true _
def Ld(P:Params)(C:Nat):Bool×Option (Option Value)×Bool×Bool×List (Option (Option Value)):=(plainGet (Kf P) (pw C) Str.empty,findIn (Kf P) (.ref (pw C)) "__setattr__",plainOver (Kf P) (pw C),hasDictIn (Kf P) (pw C),lst (λa=>findIn (Kf P) (.ref (pw C)) (Ig a)) 0 26)
def RG:Bool×Option (Option Value)×Bool×Bool×List (Option (Option Value)):=(true,some (some (.builtin "object.__setattr__")),true,true,lst (λ_=>some none) 0 26)
theorem cl0(P:Params):lst (Ld P) 0 5=lst (λ_=>RG) 0 5:=by kernel_rfl
theorem Le(k:Nat):pw (k+5)=pw 0:=by kernel_rfl
theorem sF(P:Params)(C:Nat):Ld P C=RG:=by
 by_cases h:C<5
 ·exact mK (cl0 P) C (eJ _) h
 ·exact HN h (Q:=λC=>Ld P C=RG) λk=>by unfold Ld;rw[Le];exact mK (cl0 P) 0 (dA _) ∅
theorem HR:sx ((List.range 26).map Ig)=true:=by kernel_rfl
theorem Lg(w:World):dG (tS w.params) w where
 P:=rfl
 inj:=λa b ha hb e=>by
  have h:=lJ HR;have g:∀{i:Nat},i<26->((List.range 26).map Ig)[i]?=some (Ig i):=λhi=>by rw[pR,List.getElem?_range hi];rfl
  exact(List.getElem?_inj (by rw[eT,List.length_range];exact ha) h).mp ((g ha).trans ((congrArg some e).trans (g hb).symm))
 get:=λC=>congrArg (λx=>x.1) (sF w.params C)
 set:=λC=>congrArg (λx=>x.2.1) (sF w.params C)
 over:=λC=>congrArg (λx=>x.2.2.1) (sF w.params C)
 dict:=λC=>congrArg (λx=>x.2.2.2.1) (sF w.params C)
 attr:=λC a ha=>mK (n:=26) (a:=0) (f:=λa=>findIn (Kf w.params) (.ref (pw C)) (Ig a)) (g:=λ_=>some none) (congrArg (λx=>x.2.2.2.2) (sF w.params C)) a (eJ _) ((Nat.zero_add 26).symm▸ha)
def limB(K:Frag):Bool:=cC (λo=>cC (λd=>d.d.1.toList.all (λe=>(vStr e.key).isSome)&&(nsFind d.d.1 "sys.recursionlimit").isNone) (dDic o.data)) (K.lookup cStatics)
theorem lim0(P:Params):limB (Kf P)=true:=by kernel_rfl
theorem EE(P:Params):sr (tS P):=
 mf (lim0 P) λo e h=>aB h λd h=>aw h λh1 h2=>⟨o,λx=>nsFind d.d.1 x,e,⟨d.d.1,d.d.2,d.e,λen hen=>by
  have:=bf.mp h1 en (Array.mem_toList_iff.mpr hen);cases q:vStr en.key with
  |none=>rw[q]at this;exact noB this
  |some k=>exact⟨k.d.1,k.d.2,k.e⟩,λ_=>rfl⟩,kW h2⟩
def RH:D:= .lst [.gT [],.gT [(.str [112],.tup [.int 32,.bool false,.bool false])],.gT [(.str [112],.tup [.int 32,.bool true,.bool false]),(.str [113],.tup [.int 1,.bool false,.bool true])],.gT [(.str [112],.tup [.int 33,.bool false,.bool true]),(.str [113],.tup [.int 32,.bool true,.bool true])]]
theorem HS:l7 50=some RH:=by kernel_rfl
theorem RI(P:Params):Bk (Kf P) (tGn 50) 1131=true:=by kernel_rfl
theorem XO(v:D):kj [(.str [112],v)]:=kj.put (k:= .str [112]) (x:=v) kj.nil rfl
theorem dok2(v u:D):kj [(.str [112],v),(.str [113],u)]:=kj.put (k:= .str [113]) (x:=u) (XO v) rfl
theorem lk(P:Params):((Kf P).lookup 1131=some (⟨(vT k20),none,(.seq [vR 1122,vR 1123,vR 1125,vR 1128].toArray 0),[].toArray⟩)/\(Kf P).lookup 1122=some (dc k4 [] 0))/\((Kf P).lookup 1123=some (dc k4 [en P wt 1825 (vR 1124)] 1)/\(Kf P).lookup 1125=some (dc k4 [en P wt 1828 (vR 1126),en P C1 1830 (vR 1127)] 2))/\((Kf P).lookup 1128=some (dc k4 [en P wt 1834 (vR 1129),en P C1 1836 (vR 1130)] 2)/\(Kf P).lookup 1124=some (sq [vI 32 1826,vB false,vB false] 0))/\((Kf P).lookup 1126=some (sq [vI 32 1829,vB true,vB false] 0)/\(Kf P).lookup 1127=some (sq [vI 1 1831,vB false,vB true] 0))/\((Kf P).lookup 1129=some (sq [vI 33 1835,vB false,vB true] 0)/\(Kf P).lookup 1130=some (sq [vI 32 1837,vB true,vB true] 0)):=by refine⟨⟨?_,?_⟩,⟨?_,?_⟩,⟨?_,?_⟩,⟨?_,?_⟩,?_,?_⟩<;>kernel_rfl
theorem RJ(a:Addr)(h:Nat.ble 2 a=true):a≠sysModules:=by have:sysModules=1:=rfl;have:=g5 h;intro e;rw[e]at this;revert this;decide
theorem nP:wt=nM [112]:=by kernel_rfl
theorem nQ:C1=nM [113]:=by kernel_rfl
theorem RK(P:Params)(ρ:bU)(k:hJ (tS P) ρ):VR P pw ρ RH (.ref 1131):=by
 obtain⟨⟨h31,YZ⟩,⟨Y0,h25⟩,⟨h28,h24⟩,⟨VC,h27⟩,h29,h30⟩:=lk P;have K:=λ{a o} (h:(Kf P).lookup a=some o)=>k a o h;have HT:∀{a:Addr} {i:Int} {t:Tok} {b c:Bool},(Kf P).lookup a=some (lW #[.int i t,.bool b,.bool c])->VR P pw ρ (.tup [.int i,.bool b,.bool c]) (.ref a):=λh=>⟨_,_,rfl,K h,And.intro ⟨_,rfl⟩ (And.intro rfl (And.intro rfl trivial))⟩;have ent:∀{x:Str} {l:List Nat} {t:Tok} {v:Value} {d:D},x=nM l->EI l=true->VR P pw ρ d v->((en P x t v).hash=ja P (.str l)/\VR P pw ρ (.str l) (en P x t v).key/\VR P pw ρ d (en P x t v).val):=λ{x l t v d} hx ok h=>by subst hx;exact⟨rfl,⟨t,rfl,ok⟩,h⟩
 have d2:∀{a:Addr} {t u:Tok} {v w:Value} {x y:D},(Kf P).lookup a=some (eW #[en P wt t v,en P C1 u w] 2)->Nat.ble 2 a=true->VR P pw ρ x v->VR P pw ρ y w->VR P pw ρ (.gT [(.str [112],x),(.str [113],y)]) (.ref a):=λh ha h1 h2=>⟨_,_,_,rfl,K h,And.intro (ent nP rfl h1) (And.intro (ent nQ rfl h2) trivial),RJ _ ha,dok2 _ _⟩;unfold RH;exact⟨1131,_,_,rfl,K h31,And.intro ⟨1122,_,_,rfl,K YZ,trivial,RJ _ rfl,kj.nil⟩ (And.intro ⟨1123,_,_,rfl,K Y0,And.intro (ent nP rfl (HT h24)) trivial,RJ _ rfl,XO _⟩ (And.intro (d2 h25 rfl (HT VC) (HT h27)) (And.intro (d2 h28 rfl (HT h29) (HT h30)) trivial)))⟩
theorem yq{C m f:Nat}:∀{l:List (Nat×Nat×Nat)},zY C m l=some f->(C,m,f)∈l
 |[],h=>noS h
 |p::l,h=>by
  have h:(bif Nat.beq C p.1&&Nat.beq m p.2.1 then some p.2.2 else zY C m l)=some f:=h;cases q:Nat.beq C p.1&&Nat.beq m p.2.1 with
  |false=>rw[q]at h;exact .tail _ (yq h)
  |true=>
   rw[q]at h;refine aw q λq1 q2=>?_;rw[kh q1,kh q2,<-fh h];exact .head _
theorem m0(P:Params):mtL.map (λp=>(findIn (Kf P) (.ref (pw p.1)) (SI p.2.1),typeIn (Kf P) (.ref (Bg p.2.2)),keepIn (Kf P) (.ref (Bg p.2.2)),lst (λa=>Ig a==SI p.2.1) 0 26))=
  mtL.map (λp=>(some (some (.ref (Bg p.2.2))),some (.type "function"),true,lst (λ_=>false) 0 26)):=by kernel_rfl
theorem HU{P:Params}{C m f:Nat}(h:pB C m=some f):findIn (Kf P) (.ref (pw C)) (SI m)=some (some (.ref (Bg f)))/\typeIn (Kf P) (.ref (Bg f))=some (.type "function")/\keepIn (Kf P) (.ref (Bg f))=true/\∀a,a<26->Ig a≠SI m:=by have a:=List.map_inj_left.mp (m0 P) _ (yq h);refine⟨congrArg (λx=>x.1) a,congrArg (λx=>x.2.1) a,congrArg (λx=>x.2.2.1) a,λi hi e=>?_⟩;have:=mK (n:=26) (a:=0) (f:=λi=>Ig i==SI m) (g:=λ_=>false) (congrArg (λx=>x.2.2.2) a) i (eJ _) hi;rw[e,beq_self_eq_true]at this;exact noB this.symm
def RL(n:Nat):Value:=K_ (.builtin "object.__init__") [.ref (Bg 3),.ref (Bg 0),.ref (Bg 17),.ref (Bg 68)] n
theorem nw0(P:Params):lst (λc=>(nsIn (Kf P) mainGlobals (Y2 c),keepIn (Kf P) (.ref (pw c)),makesIn (Kf P) (pw c),findIn (Kf P) (.ref (pw c)) "__init__")) 0 5=lst (λc=>(some (some (.ref (pw c))),true,true,some (some (RL c)))) 0 5:=by kernel_rfl
theorem Y3(P:Params):lst (λc=>typeIn (Kf P) (RL c)) 0 4=lst (λ_=>some (.type "function")) 0 4:=by kernel_rfl
theorem HV(k:Nat):yQ (k+5)= .no:=by kernel_rfl
theorem HW{P:Params}{c:Nat}(hc:c<5){nw:Nw}(h:makesIn (Kf P) (pw c)=true->findIn (Kf P) (.ref (pw c)) "__init__"=some (some (RL c))->yl (tS P) tb nw (pw c)):∃C,nsIn (Kf P) mainGlobals (Y2 c)=some (some (.ref C))/\keepIn (Kf P) (.ref C)=true/\yl (tS P) tb nw C:=
 have a:=mK (nw0 P) c (eJ _) hc
 ⟨pw c,congrArg (λx=>x.1) a,congrArg (λx=>x.2.1) a,h (congrArg (λx=>x.2.2.1) a) (congrArg (λx=>x.2.2.2) a)⟩
theorem Lh{P:Params}:∀{c:Nat},yQ c≠.no->∃C,nsIn (Kf P) mainGlobals (Y2 c)=some (some (.ref C))/\keepIn (Kf P) (.ref C)=true/\yl (tS P) tb (yQ c) C
 |0,_=>HW ∅ λa b=>⟨rfl,a,b,mK (Y3 P) 0 (eJ _) ∅⟩
 |1,_=>HW ∅ λa b=>⟨rfl,a,b,mK (Y3 P) 1 (eJ _) ∅⟩
 |2,_=>HW ∅ λa b=>⟨rfl,a,b,mK (Y3 P) 2 (eJ _) ∅⟩
 |3,_=>HW ∅ λa b=>⟨rfl,a,b,mK (Y3 P) 3 (eJ _) ∅⟩
 |4,_=>HW ∅ λa b=>⟨rfl,a,b⟩
 |k+5,h=>absurd (HV k) h
theorem b0'(P:Params):[BI.len,.sorted,.tuple,.range].map (λb=>(nsIn (Kf P) mainGlobals (Ib b),nsIn (Kf P) builtinsNs (Ib b)))=[BI.len,.sorted,.tuple,.range].map (λb=>(some none,some (some (YR b)))):=by kernel_rfl
theorem RM(P:Params)(b:BI):nsIn (Kf P) mainGlobals (Ib b)=some none/\nsIn (Kf P) builtinsNs (Ib b)=some (some (YR b)):=
 have a:=List.map_inj_left.mp (b0' P) b (by cases b<;>decide)
 ⟨congrArg (λx=>x.1) a,congrArg (λx=>x.2) a⟩
theorem facts(w:World):Facts (tS w.params) tb w pr where
 ok:=Lg w
 call:=EE w.params
 an:=rfl
 nA:=rfl
 glob:=λg d ρ h k=>by
  by_cases hg:g=50
  ·subst hg;have h:l7 50=some d:=h;rw[HS]at h;cases h;exact⟨_,sE (RI w.params),RK w.params ρ k⟩
  ·have c:=RF w.params g;unfold HP at c;have h:l7 g=some d:=h;rw[h]at c;exact qm c (λc=>absurd (kh c) hg) λc=>zS (T:=tS w.params) c k
 fn:=λf F h=>by have c:=HO w.params f;unfold v7 at c;have h:p8 f=some F:=h;rw[h]at c;refine aw c λc1 c=>aw c λc2 c3=>⟨HM (T:=tS w.params) c1,λhg=>?_,c3⟩;have hg:Ry f=true:=hg;rw[hg]at c2;exact sE c2
 new:=λc h=>Lh h
 aR:=λC m f h=>HU h
 bi:=RM w.params
 sys:=by kernel_rfl
 bm:=⟨rfl,rfl,rfl⟩
end
section
abbrev Y4:RowW:=PySem.Challenge.rw_qd0089_01.row.toRowW
theorem HX{args:List WData}(h:Y4.claim.pre args=true):∃l:List Int,args=[.list (l.map WData.int)]/\l.length<=63:=by
 obtain⟨h1,h2⟩:=pre_splitW h;obtain⟨d,r,rfl,h3,h4⟩:=hasAllW_cons (e:= .list .int) (es:=[]) h1;obtain rfl:=hasAllW_nil h4;obtain⟨xs,rfl,h5⟩:=hasW_list h3;obtain⟨l,rfl⟩:=items_int h5;clear h h1 h4 h3 h5;refine⟨l,rfl,?_⟩;have c:=condW_of (holds_andW h2).1 (by wtm_val);have c:(l.length:Int)<=63:=by simpa using c
 omega
theorem zT:lY 60 callerA:=⟨rfl,by show 1+claimMargin+4*60+10<recursionLimit;decide,by show 4+40*60+120<cLine;decide⟩
theorem uz{P:Params}{h:Heap}{T:bk}{ρ:bU}:∀{l:List Int} {vs:List Value},WellAll P h vs (l.map WData.int)->dB T.P T.cl ρ (l.map D.int) vs
 |[],vs,h=>by cases h;trivial
 |i::l,vs,h=>by
  cases h with
  |cons h1 h2=>
   cases h1;exact And.intro ⟨_,rfl⟩ (uz h2)
theorem Li(args ds:List WData):Y4.claim.post args (.bool true) ds=true:=by kernel_rfl
def sG(K:Frag)(la:Addr)(lo:Obj):bU:=λa=>match K.lookup a with
 |some o=> .bB o
 |none=>if a=la then .bB lo else .free
theorem Lj{K:Frag}{h:Heap}(X:K.In h){x:Str}{a b:Addr}{og:Obj}{es:Array DictEntry}{ep:Nat}(e:nsIn K mainGlobals x=some (some (.ref b)))(e1:h.get? mainGlobals=some og)(e2:og.data= .dict es ep)(e3:nsFind es x=some (.ref a)):a=b:=by
 unfold nsIn at e;cases hk:K.lookup mainGlobals with
 |none=>rw[hk]at e;cases e
 |some o=>
  have q:=X _ _ hk;rw[e1]at q;cases q;rw[hk]at e;obtain⟨c,d,da,sl⟩:=o;have e2:da= .dict es ep:=e2;subst e2;unfold nsFind findBy at e3;rw[<-Array.find?_toList]at e3;dsimp only at e;cases he:es.toList.find? (·.key.isStr x)with
  |some en=>
   rw[he]at e e3;exact Value.ref.inj ((fh e3).symm.trans (fh (fh e)))
  |none=>
   rw[he]at e3;cases e3
abbrev XQ (l:List Int):Option (PV×List MO×List TO):=run pr 60 87 [.d (.lst (l.map .int))] [] []
theorem HY(H:∀l:List Int,l.length<=63->∃pm ts,XQ l=some (.d (.bool true),pm,ts)):WalkO q0 oq (λ_ _=>True) YP0 Y4 d0 [] λf vs=>PySem.call f vs:=by
 intro w s₀ aC mg mb G Y a o pm cd doc dV kV ha ho hcd U' hmg XR args vals as hpre hlay hrd hwl hlow;obtain⟨l,rfl,hl⟩:=HX hpre;cases hwl with
 |cons h1 h2=>
 cases h2;cases h1 with
 |list g hw=>
 rename_i la vs;have Kin:(Kf w.params).In aC.heap:=λb ob e=>Y b ob (XF w.params b ob e);have ea:a=1221:=by have h1:=HO w.params 87;unfold v7 at h1;rw[show p8 87=some ⟨1,26,IK⟩from rfl,Option.all_some]at h1;have h2:Bk (Kf w.params) (tFn 87) 1221=true:=aw h1 λ_ h=>aw h λh _=>h;have h3:=sE h2;obtain⟨og,es,ep,e1,e2,_,e3⟩:=G.T.g;exact Lj Kin h3 e1 e2 ((e3 _).trans hmg)
 subst ea;let T:=tS w.params;let Eg:bU:=cw (sG (Kf w.params) la (gW vs.toArray 0)) aC.heap;have im:∀b ob,(Kf w.params).lookup b=some ob->Eg b= .bB ob:=λb ob e=>by show cw _ _ b=_;unfold cw sG;rw[e]
 have hla:Eg la= .bB (gW vs.toArray 0):=by
  cases e:(Kf w.params).lookup la with
  |none=>
   show cw _ _ la=_;unfold cw sG;rw[e];dsimp only;rw[if_pos rfl]
  |some ob=>
   rw[im _ _ e];have:=Kin _ _ e;rw[g]at this;cases this;rfl
 have role:∀b,pa aC.heap b (Eg b):=λb=>by
  show pa _ b (cw _ _ b);unfold cw sG;cases e:(Kf w.params).lookup b with
  |some ob=>exact Kin _ _ e
  |none=>
   dsimp only;by_cases hb:b=la
   ·subst hb;rw[if_pos rfl];exact g
   ·rw[if_neg hb];dsimp only;cases e':aC.heap.get? b with
    |none=>trivial
    |some ob=>exact e'
 let L0:Lo:=⟨λ_=>0,λ_=>0,λ_=>0,0,0⟩;have R0:Rep T Eg L0 ⟨[],[]⟩ aC.heap:=⟨rfl,rfl,role,λn m e=>by simp at e,λn m e=>by simp at e⟩;have K0:hJ T Eg:=im;have p0:gG T Eg L0 [.d (.lst (l.map .int))] [.ref la]:=⟨⟨la,_,_,rfl,hla,uz hw⟩,trivial⟩;obtain⟨aA,nX,hr⟩:=H l hl;have fc:=(HJ (prog:=Y4.prog) (facts w) 60 87).spec callerA aC Eg L0 [] [] _ _ _ _ _ zT K0 R0 p0 hr rfl;refine wpAny_mono fc (λv s' P=>?_) λ_ _ z=>z.elim;obtain⟨aJ,L',Ie,le,ll,R',same,_,pv⟩:=P;have hv:v= .bool true:=pv;subst hv;have keep:∀b ob,aC.heap.get? b=some ob->s'.heap.get? b=some ob:=λb ob e=>by
  have hb:=role b;cases q:Eg b with
  |free=>
   exfalso;have q:cw _ _ b=_:=q;unfold cw at q;split at q
   ·rw[e]at q;cases q
   ·rename_i n;exact n q
  |bB o'=>
   rw[q]at hb;have hb:aC.heap.get? b=some o':=hb;rw[hb]at e;cases e;exact R'.bB (le.bB _ _ q)
  |aY o'=>
   rw[q]at hb;have hb:aC.heap.get? b=some o':=hb;rw[hb]at e;cases e;exact R'.aY (le.aY _ _ q)
  |own gg=>
   exfalso;have q:cw _ _ b=_:=q;unfold cw sG at q;cases e1:(Kf w.params).lookup b with
   |some ob=>rw[e1]at q;cases q
   |none=>
    rw[e1]at q;dsimp only at q;split at q
    ·split at q<;>cases q
    ·split at q<;>cases q
 obtain⟨h',tk,hs⟩:=same;refine⟨.inl ⟨.bool true,.bool true,[],rfl,λ_=>rfl,.bool true,Li _ _,λ_=>⟨sV,λ_ z=>nomatch z⟩⟩,.of_keep keep,by rw[hs],?_⟩;have:s'.gens=#[]:=by rw[hs];exact XR
 exact .of_eq this
end
end
end
end Mine

theorem PySem.Challenge.cw_qd0089_01_holds : PySem.Challenge.rw_qd0089_01.Holds :=
 PySem.W.holds_law Mine.said fun k => Mine.Dh k (Mine.HY Mine.WJ)
